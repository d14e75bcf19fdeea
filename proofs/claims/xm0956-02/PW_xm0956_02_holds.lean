import PyProof.Rows.All
import Wide.All
import OpenK.AllK
import Wide.FinOn
import Lean
import PySem.Challenge.RW_xm0956_02
set_option Elab.async false
set_option linter.unusedVariables false
section
open PySem PySem.W PyProof.Rows
set_option maxRecDepth 100000
set_option maxHeartbeats 0
namespace Mine
noncomputable section
noncomputable abbrev Pg : Program := PySem.Challenge.rw_xm0956_02.row.toRowW.1
noncomputable def stAt (i : Nat) : Stmt := (Pg.main.body[i]?).getD (Stmt.Pass default)
noncomputable def inAt (s : Stmt) (i : Nat) : Stmt := match s with
  | .ClassDef (body := b) .. => (b[i]?).getD (Stmt.Pass default)
  | .FunctionDef (body := b) .. => (b[i]?).getD (Stmt.Pass default)
  | _ => Stmt.Pass default
noncomputable def fB (s : Stmt) : List Stmt := match s with | .FunctionDef (body := b) .. => b | _ => []
noncomputable def fA (s : Stmt) : Arguments := match s with | .FunctionDef (args := a) .. => a | _ => default
noncomputable def fS (s : Stmt) : Scope := match s with | .FunctionDef (scope := a) .. => a | _ => default
noncomputable def pS : Scope := Pg.main.scope
noncomputable abbrev wb (f : List Stmt → Obj) (b : List Stmt) {c : List Stmt} (_ : b = c) : Obj := f b
noncomputable def b_11 (P : Params) : Obj := { cls := PySem.Value.type "tuple", data := PySem.Data.seq #[] : PySem.Obj }
noncomputable def b_12 (P : Params) : Obj := { cls := PySem.Value.none, data := PySem.Data.fields #[] : PySem.Obj }
noncomputable def b_13 (P : Params) : Obj := { cls := PySem.Value.type "code", data := PySem.Data.fields #[PySem.Value.str (PySem.Str.ofString "<module>") 182, PySem.Value.str (PySem.Str.ofString "<module>") 183, PySem.Value.str (PySem.Str.ofString "/claim/cut.py") 184, PySem.Value.int 1 0, PySem.Value.int 0 0, PySem.Value.int 0 0, PySem.Value.int 0 0, PySem.Value.int 0 0, PySem.Value.ref 11, PySem.Value.bool Bool.false, PySem.Value.int 181 0, PySem.Value.ref 12, PySem.Value.none, PySem.Value.none, PySem.Value.none, PySem.Value.none, PySem.Value.int 185 0, PySem.Value.int 1 0, PySem.Value.str (PySem.Str.ofString "/claim/cut.py") 186] : PySem.Obj }
noncomputable def b_14 (P : Params) : Obj := { cls := PySem.Value.type "frame", slots := #[Option.some (PySem.Value.ref 13), Option.some (PySem.Value.ref 3), Option.some (PySem.Value.ref 3), Option.none, Option.some (PySem.Value.str (PySem.Str.ofString "__main__") 164), Option.none, Option.some (PySem.Value.ref 0)] : PySem.Obj }
noncomputable def tB (P : Params) : BT := (.node (boot_o_0 P) (.node (boot_o_1 P) (.node (boot_o_3 P) (.node (boot_o_7 P) .nil .nil) (.node (b_11 P) .nil .nil)) (.node (boot_o_5 P) (.node (boot_o_9 P) .nil .nil) (.node (b_13 P) .nil .nil))) (.node (boot_o_2 P) (.node (boot_o_4 P) (.node (boot_o_8 P) .nil .nil) (.node (b_12 P) .nil .nil)) (.node (boot_o_6 P) (.node (boot_o_10 P) .nil .nil) (.node (b_14 P) .nil .nil))))
noncomputable def hA (P : Params) : Heap := ⟨#[boot_o_0 P, boot_o_1 P, boot_o_2 P, boot_o_3 P, boot_o_4 P, boot_o_5 P, boot_o_6 P, boot_o_7 P, boot_o_8 P, boot_o_9 P, boot_o_10 P, b_11 P, b_12 P, b_13 P, b_14 P], { : PySem.Life }⟩
noncomputable def k_2 (P : Params) : Obj := { cls := PySem.Value.none, data := PySem.Data.dict #[{ hash := PySem.PyData.keyHash P (PySem.Str.ofString "type.__subclasses__.Exception.0"), key := PySem.Value.str (PySem.Str.ofString "type.__subclasses__.Exception.0") 280, val := PySem.Value.int 69 0 : PySem.DictEntry }, { hash := PySem.PyData.keyHash P (PySem.Str.ofString "type.__subclasses__.Exception.n"), key := PySem.Value.str (PySem.Str.ofString "type.__subclasses__.Exception.n") 281, val := PySem.Value.int 1 0 : PySem.DictEntry }] 2 : PySem.Obj }
noncomputable def k_3 (P : Params) : Obj := { cls := PySem.Value.type "dict", data := PySem.Data.dict #[{ hash := PySem.PyData.keyHash P (PySem.Str.ofString "__name__"), key := PySem.Value.str (PySem.Str.ofString "__name__") 165, val := PySem.Value.str (PySem.Str.ofString "law_xm0956_02") 842 : PySem.DictEntry }, { hash := PySem.PyData.keyHash P (PySem.Str.ofString "__doc__"), key := PySem.Value.str (PySem.Str.ofString "__doc__") 166, val := PySem.Value.none : PySem.DictEntry }, { hash := PySem.PyData.keyHash P (PySem.Str.ofString "__package__"), key := PySem.Value.str (PySem.Str.ofString "__package__") 167, val := PySem.Value.none : PySem.DictEntry }, { hash := PySem.PyData.keyHash P (PySem.Str.ofString "__loader__"), key := PySem.Value.str (PySem.Str.ofString "__loader__") 168, val := PySem.Value.builtin "__main__.__loader__#opaque" : PySem.DictEntry }, { hash := PySem.PyData.keyHash P (PySem.Str.ofString "__spec__"), key := PySem.Value.str (PySem.Str.ofString "__spec__") 169, val := PySem.Value.none : PySem.DictEntry }, { hash := PySem.PyData.keyHash P (PySem.Str.ofString "__annotations__"), key := PySem.Value.str (PySem.Str.ofString "__annotations__") 170, val := PySem.Value.ref 6 : PySem.DictEntry }, { hash := PySem.PyData.keyHash P (PySem.Str.ofString "__builtins__"), key := PySem.Value.str (PySem.Str.ofString "__builtins__") 171, val := PySem.Value.ref 4 : PySem.DictEntry }, { hash := PySem.PyData.keyHash P (PySem.Str.ofString "__file__"), key := PySem.Value.str (PySem.Str.ofString "__file__") 173, val := PySem.Value.str (PySem.Str.ofString "/claim/cut.py") 172 : PySem.DictEntry }, { hash := PySem.PyData.keyHash P (PySem.Str.ofString "__cached__"), key := PySem.Value.str (PySem.Str.ofString "__cached__") 174, val := PySem.Value.none : PySem.DictEntry }, { hash := PySem.PyData.keyHash P (PySem.Str.ofString "give_names"), key := PySem.Value.str (PySem.Str.ofString "give_names") 198, val := PySem.Value.ref 21 : PySem.DictEntry }, { hash := PySem.PyData.keyHash P (PySem.Str.ofString "three_pieces"), key := PySem.Value.str (PySem.Str.ofString "three_pieces") 206, val := PySem.Value.ref 28 : PySem.DictEntry }, { hash := PySem.PyData.keyHash P (PySem.Str.ofString "spliced"), key := PySem.Value.str (PySem.Str.ofString "spliced") 218, val := PySem.Value.ref 35 : PySem.DictEntry }, { hash := PySem.PyData.keyHash P (PySem.Str.ofString "replace_once"), key := PySem.Value.str (PySem.Str.ofString "replace_once") 232, val := PySem.Value.ref 42 : PySem.DictEntry }, { hash := PySem.PyData.keyHash P (PySem.Str.ofString "replace_often"), key := PySem.Value.str (PySem.Str.ofString "replace_often") 247, val := PySem.Value.ref 49 : PySem.DictEntry }, { hash := PySem.PyData.keyHash P (PySem.Str.ofString "SnobolError"), key := PySem.Value.str (PySem.Str.ofString "SnobolError") 283, val := PySem.Value.ref 69 : PySem.DictEntry }, { hash := PySem.PyData.keyHash P (PySem.Str.ofString "Failure"), key := PySem.Value.str (PySem.Str.ofString "Failure") 303, val := PySem.Value.ref 82 : PySem.DictEntry }, { hash := PySem.PyData.keyHash P (PySem.Str.ofString "Pattern"), key := PySem.Value.str (PySem.Str.ofString "Pattern") 332, val := PySem.Value.ref 103 : PySem.DictEntry }, { hash := PySem.PyData.keyHash P (PySem.Str.ofString "Delayed"), key := PySem.Value.str (PySem.Str.ofString "Delayed") 361, val := PySem.Value.ref 124 : PySem.DictEntry }, { hash := PySem.PyData.keyHash P (PySem.Str.ofString "NameRef"), key := PySem.Value.str (PySem.Str.ofString "NameRef") 394, val := PySem.Value.ref 145 : PySem.DictEntry }, { hash := PySem.PyData.keyHash P (PySem.Str.ofString "is_fail"), key := PySem.Value.str (PySem.Str.ofString "is_fail") 401, val := PySem.Value.ref 156 : PySem.DictEntry }, { hash := PySem.PyData.keyHash P (PySem.Str.ofString "fits"), key := PySem.Value.str (PySem.Str.ofString "fits") 409, val := PySem.Value.ref 163 : PySem.DictEntry }, { hash := PySem.PyData.keyHash P (PySem.Str.ofString "whole_of_text"), key := PySem.Value.str (PySem.Str.ofString "whole_of_text") 420, val := PySem.Value.ref 170 : PySem.DictEntry }, { hash := PySem.PyData.keyHash P (PySem.Str.ofString "text_of_whole"), key := PySem.Value.str (PySem.Str.ofString "text_of_whole") 429, val := PySem.Value.ref 177 : PySem.DictEntry }, { hash := PySem.PyData.keyHash P (PySem.Str.ofString "to_whole"), key := PySem.Value.str (PySem.Str.ofString "to_whole") 437, val := PySem.Value.ref 184 : PySem.DictEntry }, { hash := PySem.PyData.keyHash P (PySem.Str.ofString "to_text"), key := PySem.Value.str (PySem.Str.ofString "to_text") 444, val := PySem.Value.ref 191 : PySem.DictEntry }, { hash := PySem.PyData.keyHash P (PySem.Str.ofString "need_text"), key := PySem.Value.str (PySem.Str.ofString "need_text") 452, val := PySem.Value.ref 198 : PySem.DictEntry }, { hash := PySem.PyData.keyHash P (PySem.Str.ofString "PlainHost"), key := PySem.Value.str (PySem.Str.ofString "PlainHost") 514, val := PySem.Value.ref 236 : PySem.DictEntry }, { hash := PySem.PyData.keyHash P (PySem.Str.ofString "COUNTED"), key := PySem.Value.str (PySem.Str.ofString "COUNTED") 522, val := PySem.Value.ref 241 : PySem.DictEntry }, { hash := PySem.PyData.keyHash P (PySem.Str.ofString "SIGNED"), key := PySem.Value.str (PySem.Str.ofString "SIGNED") 527, val := PySem.Value.ref 242 : PySem.DictEntry }, { hash := PySem.PyData.keyHash P (PySem.Str.ofString "WIDTH_OF_COUNT"), key := PySem.Value.str (PySem.Str.ofString "WIDTH_OF_COUNT") 529, val := PySem.Value.int 64 528 : PySem.DictEntry }, { hash := PySem.PyData.keyHash P (PySem.Str.ofString "plain_count"), key := PySem.Value.str (PySem.Str.ofString "plain_count") 539, val := PySem.Value.ref 250 : PySem.DictEntry }, { hash := PySem.PyData.keyHash P (PySem.Str.ofString "plain_signs"), key := PySem.Value.str (PySem.Str.ofString "plain_signs") 548, val := PySem.Value.ref 257 : PySem.DictEntry }, { hash := PySem.PyData.keyHash P (PySem.Str.ofString "pattern_of"), key := PySem.Value.str (PySem.Str.ofString "pattern_of") 556, val := PySem.Value.ref 264 : PySem.DictEntry }, { hash := PySem.PyData.keyHash P (PySem.Str.ofString "is_delayed"), key := PySem.Value.str (PySem.Str.ofString "is_delayed") 563, val := PySem.Value.ref 271 : PySem.DictEntry }, { hash := PySem.PyData.keyHash P (PySem.Str.ofString "settled"), key := PySem.Value.str (PySem.Str.ofString "settled") 572, val := PySem.Value.ref 278 : PySem.DictEntry }, { hash := PySem.PyData.keyHash P (PySem.Str.ofString "OPENING"), key := PySem.Value.str (PySem.Str.ofString "OPENING") 576, val := PySem.Value.str (PySem.Str.ofString "(") 575 : PySem.DictEntry }, { hash := PySem.PyData.keyHash P (PySem.Str.ofString "CLOSING"), key := PySem.Value.str (PySem.Str.ofString "CLOSING") 578, val := PySem.Value.str (PySem.Str.ofString ")") 577 : PySem.DictEntry }, { hash := PySem.PyData.keyHash P (PySem.Str.ofString "chars_end"), key := PySem.Value.str (PySem.Str.ofString "chars_end") 588, val := PySem.Value.ref 285 : PySem.DictEntry }, { hash := PySem.PyData.keyHash P (PySem.Str.ofString "len_end"), key := PySem.Value.str (PySem.Str.ofString "len_end") 597, val := PySem.Value.ref 292 : PySem.DictEntry }, { hash := PySem.PyData.keyHash P (PySem.Str.ofString "pos_end"), key := PySem.Value.str (PySem.Str.ofString "pos_end") 605, val := PySem.Value.ref 299 : PySem.DictEntry }, { hash := PySem.PyData.keyHash P (PySem.Str.ofString "rpos_end"), key := PySem.Value.str (PySem.Str.ofString "rpos_end") 614, val := PySem.Value.ref 306 : PySem.DictEntry }, { hash := PySem.PyData.keyHash P (PySem.Str.ofString "tab_end"), key := PySem.Value.str (PySem.Str.ofString "tab_end") 623, val := PySem.Value.ref 313 : PySem.DictEntry }, { hash := PySem.PyData.keyHash P (PySem.Str.ofString "rtab_end"), key := PySem.Value.str (PySem.Str.ofString "rtab_end") 633, val := PySem.Value.ref 320 : PySem.DictEntry }, { hash := PySem.PyData.keyHash P (PySem.Str.ofString "rem_end"), key := PySem.Value.str (PySem.Str.ofString "rem_end") 640, val := PySem.Value.ref 327 : PySem.DictEntry }, { hash := PySem.PyData.keyHash P (PySem.Str.ofString "any_at"), key := PySem.Value.str (PySem.Str.ofString "any_at") 649, val := PySem.Value.ref 334 : PySem.DictEntry }, { hash := PySem.PyData.keyHash P (PySem.Str.ofString "notany_at"), key := PySem.Value.str (PySem.Str.ofString "notany_at") 658, val := PySem.Value.ref 341 : PySem.DictEntry }, { hash := PySem.PyData.keyHash P (PySem.Str.ofString "run_end"), key := PySem.Value.str (PySem.Str.ofString "run_end") 668, val := PySem.Value.ref 348 : PySem.DictEntry }, { hash := PySem.PyData.keyHash P (PySem.Str.ofString "span_end"), key := PySem.Value.str (PySem.Str.ofString "span_end") 678, val := PySem.Value.ref 355 : PySem.DictEntry }, { hash := PySem.PyData.keyHash P (PySem.Str.ofString "break_end"), key := PySem.Value.str (PySem.Str.ofString "break_end") 688, val := PySem.Value.ref 362 : PySem.DictEntry }, { hash := PySem.PyData.keyHash P (PySem.Str.ofString "bal_end"), key := PySem.Value.str (PySem.Str.ofString "bal_end") 697, val := PySem.Value.ref 369 : PySem.DictEntry }, { hash := PySem.PyData.keyHash P (PySem.Str.ofString "bal_ends"), key := PySem.Value.str (PySem.Str.ofString "bal_ends") 707, val := PySem.Value.ref 376 : PySem.DictEntry }, { hash := PySem.PyData.keyHash P (PySem.Str.ofString "one_end"), key := PySem.Value.str (PySem.Str.ofString "one_end") 717, val := PySem.Value.ref 383 : PySem.DictEntry }, { hash := PySem.PyData.keyHash P (PySem.Str.ofString "plain_end"), key := PySem.Value.str (PySem.Str.ofString "plain_end") 726, val := PySem.Value.ref 390 : PySem.DictEntry }, { hash := PySem.PyData.keyHash P (PySem.Str.ofString "LOST"), key := PySem.Value.str (PySem.Str.ofString "LOST") 730, val := PySem.Value.str (PySem.Str.ofString "lost") 729 : PySem.DictEntry }, { hash := PySem.PyData.keyHash P (PySem.Str.ofString "match_plain"), key := PySem.Value.str (PySem.Str.ofString "match_plain") 742, val := PySem.Value.ref 397 : PySem.DictEntry }, { hash := PySem.PyData.keyHash P (PySem.Str.ofString "match_at"), key := PySem.Value.str (PySem.Str.ofString "match_at") 753, val := PySem.Value.ref 404 : PySem.DictEntry }, { hash := PySem.PyData.keyHash P (PySem.Str.ofString "tried"), key := PySem.Value.str (PySem.Str.ofString "tried") 768, val := PySem.Value.ref 411 : PySem.DictEntry }, { hash := PySem.PyData.keyHash P (PySem.Str.ofString "advanced"), key := PySem.Value.str (PySem.Str.ofString "advanced") 784, val := PySem.Value.ref 418 : PySem.DictEntry }, { hash := PySem.PyData.keyHash P (PySem.Str.ofString "led_in"), key := PySem.Value.str (PySem.Str.ofString "led_in") 796, val := PySem.Value.ref 425 : PySem.DictEntry }, { hash := PySem.PyData.keyHash P (PySem.Str.ofString "led_out"), key := PySem.Value.str (PySem.Str.ofString "led_out") 812, val := PySem.Value.ref 432 : PySem.DictEntry }, { hash := PySem.PyData.keyHash P (PySem.Str.ofString "steered"), key := PySem.Value.str (PySem.Str.ofString "steered") 824, val := PySem.Value.ref 439 : PySem.DictEntry }, { hash := PySem.PyData.keyHash P (PySem.Str.ofString "taken"), key := PySem.Value.str (PySem.Str.ofString "taken") 841, val := PySem.Value.ref 446 : PySem.DictEntry }, { hash := PySem.PyData.keyHash P (PySem.Str.ofString "law"), key := PySem.Value.str (PySem.Str.ofString "law") 849, val := PySem.Value.ref 451 : PySem.DictEntry }] 63 : PySem.Obj }
noncomputable def k_15 (P : Params) : Obj := { cls := PySem.Value.type "tuple", data := PySem.Data.seq #[] : PySem.Obj }
noncomputable def k_17 (P : Params) : Obj := { cls := PySem.Value.type "tuple", data := PySem.Data.seq #[PySem.Value.str (PySem.Str.ofString "found") 192, PySem.Value.str (PySem.Str.ofString "give") 193, PySem.Value.str (PySem.Str.ofString "ref") 194, PySem.Value.str (PySem.Str.ofString "text") 195] : PySem.Obj }
noncomputable def k_18 (P : Params) : Obj := { cls := PySem.Value.type "tuple", data := PySem.Data.seq #[] : PySem.Obj }
noncomputable def k_20 (P : Params) : Obj := { cls := PySem.Value.type "code", data := PySem.Data.fields #[PySem.Value.str (PySem.Str.ofString "give_names") 189, PySem.Value.str (PySem.Str.ofString "give_names") 190, PySem.Value.str (PySem.Str.ofString "/claim/cut.py") 191, PySem.Value.int 2 0, PySem.Value.int 2 0, PySem.Value.int 0 0, PySem.Value.int 0 0, PySem.Value.int 3 0, PySem.Value.ref 15, PySem.Value.bool Bool.true, PySem.Value.int 181 0, PySem.Value.ref 16, PySem.Value.none, PySem.Value.ref 17, PySem.Value.ref 18, PySem.Value.ref 19, PySem.Value.int 196 0, PySem.Value.int 2 0, PySem.Value.str (PySem.Str.ofString "/claim/cut.py") 197] : PySem.Obj }
noncomputable def k_21 (P : Params) : Obj := wb (fun b => { cls := PySem.Value.type "function", data := PySem.Data.func { name := PySem.Str.ofString "give_names", qualname := PySem.Str.ofString "give_names", params := { posonlyargs := [], args := [{ arg := PySem.Str.ofString "found", annotation := Option.none, pos := { line := 2, col := 15, endLine := 2, endCol := 20 : PySem.Pos } : PySem.Arg }, { arg := PySem.Str.ofString "give", annotation := Option.none, pos := { line := 2, col := 22, endLine := 2, endCol := 26 : PySem.Pos } : PySem.Arg }], vararg := Option.none, kwonlyargs := [], kw_defaults := [], kwarg := Option.none, defaults := [] : PySem.Arguments }, body := PySem.FuncBody.stmts b, scope := { kind := PySem.ScopeKind.function, names := [(PySem.Str.ofString "found", PySem.NameKind.local), (PySem.Str.ofString "give", PySem.NameKind.local), (PySem.Str.ofString "ref", PySem.NameKind.local), (PySem.Str.ofString "text", PySem.NameKind.local)], isGenerator := Bool.false, isCoroutine := Bool.false : PySem.Scope }, globals := 3, closure := [], defaults := PySem.Value.none, kwdefaults := PySem.Value.none, pyModule := PySem.Value.str (PySem.Str.ofString "snobol.matchcore") 187, code := PySem.Value.ref 20 : PySem.FuncData } : PySem.Obj }) [_] (rfl : _ = fB (stAt 1))
noncomputable def k_22 (P : Params) : Obj := { cls := PySem.Value.type "tuple", data := PySem.Data.seq #[] : PySem.Obj }
noncomputable def k_24 (P : Params) : Obj := { cls := PySem.Value.type "tuple", data := PySem.Data.seq #[PySem.Value.str (PySem.Str.ofString "subject") 202, PySem.Value.str (PySem.Str.ofString "found") 203] : PySem.Obj }
noncomputable def k_25 (P : Params) : Obj := { cls := PySem.Value.type "tuple", data := PySem.Data.seq #[] : PySem.Obj }
noncomputable def k_27 (P : Params) : Obj := { cls := PySem.Value.type "code", data := PySem.Data.fields #[PySem.Value.str (PySem.Str.ofString "three_pieces") 199, PySem.Value.str (PySem.Str.ofString "three_pieces") 200, PySem.Value.str (PySem.Str.ofString "/claim/cut.py") 201, PySem.Value.int 5 0, PySem.Value.int 2 0, PySem.Value.int 0 0, PySem.Value.int 0 0, PySem.Value.int 3 0, PySem.Value.ref 22, PySem.Value.bool Bool.true, PySem.Value.int 181 0, PySem.Value.ref 23, PySem.Value.none, PySem.Value.ref 24, PySem.Value.ref 25, PySem.Value.ref 26, PySem.Value.int 204 0, PySem.Value.int 5 0, PySem.Value.str (PySem.Str.ofString "/claim/cut.py") 205] : PySem.Obj }
noncomputable def k_28 (P : Params) : Obj := wb (fun b => { cls := PySem.Value.type "function", data := PySem.Data.func { name := PySem.Str.ofString "three_pieces", qualname := PySem.Str.ofString "three_pieces", params := { posonlyargs := [], args := [{ arg := PySem.Str.ofString "subject", annotation := Option.none, pos := { line := 5, col := 17, endLine := 5, endCol := 24 : PySem.Pos } : PySem.Arg }, { arg := PySem.Str.ofString "found", annotation := Option.none, pos := { line := 5, col := 26, endLine := 5, endCol := 31 : PySem.Pos } : PySem.Arg }], vararg := Option.none, kwonlyargs := [], kw_defaults := [], kwarg := Option.none, defaults := [] : PySem.Arguments }, body := PySem.FuncBody.stmts b, scope := { kind := PySem.ScopeKind.function, names := [(PySem.Str.ofString "subject", PySem.NameKind.local), (PySem.Str.ofString "found", PySem.NameKind.local)], isGenerator := Bool.false, isCoroutine := Bool.false : PySem.Scope }, globals := 3, closure := [], defaults := PySem.Value.none, kwdefaults := PySem.Value.none, pyModule := PySem.Value.str (PySem.Str.ofString "snobol.matchcore") 187, code := PySem.Value.ref 27 : PySem.FuncData } : PySem.Obj }) [_] (rfl : _ = fB (stAt 2))
noncomputable def k_29 (P : Params) : Obj := { cls := PySem.Value.type "tuple", data := PySem.Data.seq #[] : PySem.Obj }
noncomputable def k_31 (P : Params) : Obj := { cls := PySem.Value.type "tuple", data := PySem.Data.seq #[PySem.Value.str (PySem.Str.ofString "subject") 210, PySem.Value.str (PySem.Str.ofString "found") 211, PySem.Value.str (PySem.Str.ofString "text") 212, PySem.Value.str (PySem.Str.ofString "ahead") 213, PySem.Value.str (PySem.Str.ofString "met") 214, PySem.Value.str (PySem.Str.ofString "behind") 215] : PySem.Obj }
noncomputable def k_32 (P : Params) : Obj := { cls := PySem.Value.type "tuple", data := PySem.Data.seq #[] : PySem.Obj }
noncomputable def k_34 (P : Params) : Obj := { cls := PySem.Value.type "code", data := PySem.Data.fields #[PySem.Value.str (PySem.Str.ofString "spliced") 207, PySem.Value.str (PySem.Str.ofString "spliced") 208, PySem.Value.str (PySem.Str.ofString "/claim/cut.py") 209, PySem.Value.int 7 0, PySem.Value.int 3 0, PySem.Value.int 0 0, PySem.Value.int 0 0, PySem.Value.int 3 0, PySem.Value.ref 29, PySem.Value.bool Bool.true, PySem.Value.int 181 0, PySem.Value.ref 30, PySem.Value.none, PySem.Value.ref 31, PySem.Value.ref 32, PySem.Value.ref 33, PySem.Value.int 216 0, PySem.Value.int 7 0, PySem.Value.str (PySem.Str.ofString "/claim/cut.py") 217] : PySem.Obj }
noncomputable def k_35 (P : Params) : Obj := wb (fun b => { cls := PySem.Value.type "function", data := PySem.Data.func { name := PySem.Str.ofString "spliced", qualname := PySem.Str.ofString "spliced", params := { posonlyargs := [], args := [{ arg := PySem.Str.ofString "subject", annotation := Option.none, pos := { line := 7, col := 12, endLine := 7, endCol := 19 : PySem.Pos } : PySem.Arg }, { arg := PySem.Str.ofString "found", annotation := Option.none, pos := { line := 7, col := 21, endLine := 7, endCol := 26 : PySem.Pos } : PySem.Arg }, { arg := PySem.Str.ofString "text", annotation := Option.none, pos := { line := 7, col := 28, endLine := 7, endCol := 32 : PySem.Pos } : PySem.Arg }], vararg := Option.none, kwonlyargs := [], kw_defaults := [], kwarg := Option.none, defaults := [] : PySem.Arguments }, body := PySem.FuncBody.stmts b, scope := { kind := PySem.ScopeKind.function, names := [(PySem.Str.ofString "subject", PySem.NameKind.local), (PySem.Str.ofString "found", PySem.NameKind.local), (PySem.Str.ofString "text", PySem.NameKind.local), (PySem.Str.ofString "ahead", PySem.NameKind.local), (PySem.Str.ofString "met", PySem.NameKind.local), (PySem.Str.ofString "behind", PySem.NameKind.local), (PySem.Str.ofString "three_pieces", PySem.NameKind.globalImplicit)], isGenerator := Bool.false, isCoroutine := Bool.false : PySem.Scope }, globals := 3, closure := [], defaults := PySem.Value.none, kwdefaults := PySem.Value.none, pyModule := PySem.Value.str (PySem.Str.ofString "snobol.matchcore") 187, code := PySem.Value.ref 34 : PySem.FuncData } : PySem.Obj }) [_, _] (rfl : _ = fB (stAt 3))
noncomputable def k_36 (P : Params) : Obj := { cls := PySem.Value.type "tuple", data := PySem.Data.seq #[] : PySem.Obj }
noncomputable def k_38 (P : Params) : Obj := { cls := PySem.Value.type "tuple", data := PySem.Data.seq #[PySem.Value.str (PySem.Str.ofString "matcher") 222, PySem.Value.str (PySem.Str.ofString "node") 223, PySem.Value.str (PySem.Str.ofString "subject") 224, PySem.Value.str (PySem.Str.ofString "is_anchored") 225, PySem.Value.str (PySem.Str.ofString "host") 226, PySem.Value.str (PySem.Str.ofString "text_of") 227, PySem.Value.str (PySem.Str.ofString "found") 228, PySem.Value.str (PySem.Str.ofString "text") 229] : PySem.Obj }
noncomputable def k_39 (P : Params) : Obj := { cls := PySem.Value.type "tuple", data := PySem.Data.seq #[] : PySem.Obj }
noncomputable def k_41 (P : Params) : Obj := { cls := PySem.Value.type "code", data := PySem.Data.fields #[PySem.Value.str (PySem.Str.ofString "replace_once") 219, PySem.Value.str (PySem.Str.ofString "replace_once") 220, PySem.Value.str (PySem.Str.ofString "/claim/cut.py") 221, PySem.Value.int 10 0, PySem.Value.int 6 0, PySem.Value.int 0 0, PySem.Value.int 0 0, PySem.Value.int 3 0, PySem.Value.ref 36, PySem.Value.bool Bool.true, PySem.Value.int 181 0, PySem.Value.ref 37, PySem.Value.none, PySem.Value.ref 38, PySem.Value.ref 39, PySem.Value.ref 40, PySem.Value.int 230 0, PySem.Value.int 10 0, PySem.Value.str (PySem.Str.ofString "/claim/cut.py") 231] : PySem.Obj }
noncomputable def k_42 (P : Params) : Obj := wb (fun b => { cls := PySem.Value.type "function", data := PySem.Data.func { name := PySem.Str.ofString "replace_once", qualname := PySem.Str.ofString "replace_once", params := { posonlyargs := [], args := [{ arg := PySem.Str.ofString "matcher", annotation := Option.none, pos := { line := 10, col := 17, endLine := 10, endCol := 24 : PySem.Pos } : PySem.Arg }, { arg := PySem.Str.ofString "node", annotation := Option.none, pos := { line := 10, col := 26, endLine := 10, endCol := 30 : PySem.Pos } : PySem.Arg }, { arg := PySem.Str.ofString "subject", annotation := Option.none, pos := { line := 10, col := 32, endLine := 10, endCol := 39 : PySem.Pos } : PySem.Arg }, { arg := PySem.Str.ofString "is_anchored", annotation := Option.none, pos := { line := 10, col := 41, endLine := 10, endCol := 52 : PySem.Pos } : PySem.Arg }, { arg := PySem.Str.ofString "host", annotation := Option.none, pos := { line := 10, col := 54, endLine := 10, endCol := 58 : PySem.Pos } : PySem.Arg }, { arg := PySem.Str.ofString "text_of", annotation := Option.none, pos := { line := 10, col := 60, endLine := 10, endCol := 67 : PySem.Pos } : PySem.Arg }], vararg := Option.none, kwonlyargs := [], kw_defaults := [], kwarg := Option.none, defaults := [] : PySem.Arguments }, body := PySem.FuncBody.stmts b, scope := { kind := PySem.ScopeKind.function, names := [(PySem.Str.ofString "matcher", PySem.NameKind.local), (PySem.Str.ofString "node", PySem.NameKind.local), (PySem.Str.ofString "subject", PySem.NameKind.local), (PySem.Str.ofString "is_anchored", PySem.NameKind.local), (PySem.Str.ofString "host", PySem.NameKind.local), (PySem.Str.ofString "text_of", PySem.NameKind.local), (PySem.Str.ofString "found", PySem.NameKind.local), (PySem.Str.ofString "text", PySem.NameKind.local), (PySem.Str.ofString "give_names", PySem.NameKind.globalImplicit), (PySem.Str.ofString "spliced", PySem.NameKind.globalImplicit)], isGenerator := Bool.false, isCoroutine := Bool.false : PySem.Scope }, globals := 3, closure := [], defaults := PySem.Value.none, kwdefaults := PySem.Value.none, pyModule := PySem.Value.str (PySem.Str.ofString "snobol.matchcore") 187, code := PySem.Value.ref 41 : PySem.FuncData } : PySem.Obj }) [_, _, _, _, _] (rfl : _ = fB (stAt 4))
noncomputable def k_43 (P : Params) : Obj := { cls := PySem.Value.type "tuple", data := PySem.Data.seq #[] : PySem.Obj }
noncomputable def k_45 (P : Params) : Obj := { cls := PySem.Value.type "tuple", data := PySem.Data.seq #[PySem.Value.str (PySem.Str.ofString "matcher") 236, PySem.Value.str (PySem.Str.ofString "node") 237, PySem.Value.str (PySem.Str.ofString "subject") 238, PySem.Value.str (PySem.Str.ofString "is_anchored") 239, PySem.Value.str (PySem.Str.ofString "host") 240, PySem.Value.str (PySem.Str.ofString "text_of") 241, PySem.Value.str (PySem.Str.ofString "most") 242, PySem.Value.str (PySem.Str.ofString "many") 243, PySem.Value.str (PySem.Str.ofString "later") 244] : PySem.Obj }
noncomputable def k_46 (P : Params) : Obj := { cls := PySem.Value.type "tuple", data := PySem.Data.seq #[] : PySem.Obj }
noncomputable def k_48 (P : Params) : Obj := { cls := PySem.Value.type "code", data := PySem.Data.fields #[PySem.Value.str (PySem.Str.ofString "replace_often") 233, PySem.Value.str (PySem.Str.ofString "replace_often") 234, PySem.Value.str (PySem.Str.ofString "/claim/cut.py") 235, PySem.Value.int 17 0, PySem.Value.int 7 0, PySem.Value.int 0 0, PySem.Value.int 0 0, PySem.Value.int 3 0, PySem.Value.ref 43, PySem.Value.bool Bool.true, PySem.Value.int 181 0, PySem.Value.ref 44, PySem.Value.none, PySem.Value.ref 45, PySem.Value.ref 46, PySem.Value.ref 47, PySem.Value.int 245 0, PySem.Value.int 17 0, PySem.Value.str (PySem.Str.ofString "/claim/cut.py") 246] : PySem.Obj }
noncomputable def k_49 (P : Params) : Obj := wb (fun b => { cls := PySem.Value.type "function", data := PySem.Data.func { name := PySem.Str.ofString "replace_often", qualname := PySem.Str.ofString "replace_often", params := { posonlyargs := [], args := [{ arg := PySem.Str.ofString "matcher", annotation := Option.none, pos := { line := 17, col := 18, endLine := 17, endCol := 25 : PySem.Pos } : PySem.Arg }, { arg := PySem.Str.ofString "node", annotation := Option.none, pos := { line := 17, col := 27, endLine := 17, endCol := 31 : PySem.Pos } : PySem.Arg }, { arg := PySem.Str.ofString "subject", annotation := Option.none, pos := { line := 17, col := 33, endLine := 17, endCol := 40 : PySem.Pos } : PySem.Arg }, { arg := PySem.Str.ofString "is_anchored", annotation := Option.none, pos := { line := 17, col := 42, endLine := 17, endCol := 53 : PySem.Pos } : PySem.Arg }, { arg := PySem.Str.ofString "host", annotation := Option.none, pos := { line := 17, col := 55, endLine := 17, endCol := 59 : PySem.Pos } : PySem.Arg }, { arg := PySem.Str.ofString "text_of", annotation := Option.none, pos := { line := 17, col := 61, endLine := 17, endCol := 68 : PySem.Pos } : PySem.Arg }, { arg := PySem.Str.ofString "most", annotation := Option.none, pos := { line := 17, col := 70, endLine := 17, endCol := 74 : PySem.Pos } : PySem.Arg }], vararg := Option.none, kwonlyargs := [], kw_defaults := [], kwarg := Option.none, defaults := [] : PySem.Arguments }, body := PySem.FuncBody.stmts b, scope := { kind := PySem.ScopeKind.function, names := [(PySem.Str.ofString "matcher", PySem.NameKind.local), (PySem.Str.ofString "node", PySem.NameKind.local), (PySem.Str.ofString "subject", PySem.NameKind.local), (PySem.Str.ofString "is_anchored", PySem.NameKind.local), (PySem.Str.ofString "host", PySem.NameKind.local), (PySem.Str.ofString "text_of", PySem.NameKind.local), (PySem.Str.ofString "most", PySem.NameKind.local), (PySem.Str.ofString "many", PySem.NameKind.local), (PySem.Str.ofString "later", PySem.NameKind.local), (PySem.Str.ofString "replace_once", PySem.NameKind.globalImplicit)], isGenerator := Bool.false, isCoroutine := Bool.false : PySem.Scope }, globals := 3, closure := [], defaults := PySem.Value.none, kwdefaults := PySem.Value.none, pyModule := PySem.Value.str (PySem.Str.ofString "snobol.matchcore") 187, code := PySem.Value.ref 48 : PySem.FuncData } : PySem.Obj }) [_, _, _] (rfl : _ = fB (stAt 5))
noncomputable def k_50 (P : Params) : Obj := { cls := PySem.Value.type "tuple", data := PySem.Data.seq #[PySem.Value.type "Exception"] : PySem.Obj }
noncomputable def k_53 (P : Params) : Obj := { cls := PySem.Value.type "cell", data := PySem.Data.cell (Option.some (PySem.Value.ref 69)) : PySem.Obj }
noncomputable def k_58 (P : Params) : Obj := { cls := PySem.Value.type "tuple", data := PySem.Data.seq #[PySem.Value.str (PySem.Str.ofString "") 262] : PySem.Obj }
noncomputable def k_59 (P : Params) : Obj := { cls := PySem.Value.type "tuple", data := PySem.Data.seq #[PySem.Value.ref 53] : PySem.Obj }
noncomputable def k_60 (P : Params) : Obj := { cls := PySem.Value.type "tuple", data := PySem.Data.seq #[PySem.Value.str (PySem.Str.ofString "__class__") 266] : PySem.Obj }
noncomputable def k_62 (P : Params) : Obj := { cls := PySem.Value.type "tuple", data := PySem.Data.seq #[PySem.Value.str (PySem.Str.ofString "self") 267, PySem.Value.str (PySem.Str.ofString "number") 268, PySem.Value.str (PySem.Str.ofString "told") 269] : PySem.Obj }
noncomputable def k_63 (P : Params) : Obj := { cls := PySem.Value.type "tuple", data := PySem.Data.seq #[] : PySem.Obj }
noncomputable def k_65 (P : Params) : Obj := { cls := PySem.Value.type "code", data := PySem.Data.fields #[PySem.Value.str (PySem.Str.ofString "__init__") 263, PySem.Value.str (PySem.Str.ofString "SnobolError.__init__") 264, PySem.Value.str (PySem.Str.ofString "/claim/cut.py") 265, PySem.Value.int 28 0, PySem.Value.int 3 0, PySem.Value.int 0 0, PySem.Value.int 0 0, PySem.Value.int 3 0, PySem.Value.ref 60, PySem.Value.bool Bool.true, PySem.Value.int 181 0, PySem.Value.ref 61, PySem.Value.none, PySem.Value.ref 62, PySem.Value.ref 63, PySem.Value.ref 64, PySem.Value.int 270 0, PySem.Value.int 28 0, PySem.Value.str (PySem.Str.ofString "/claim/cut.py") 271] : PySem.Obj }
noncomputable def k_66 (P : Params) : Obj := wb (fun b => { cls := PySem.Value.type "function", data := PySem.Data.func { name := PySem.Str.ofString "__init__", qualname := PySem.Str.ofString "SnobolError.__init__", params := { posonlyargs := [], args := [{ arg := PySem.Str.ofString "self", annotation := Option.none, pos := { line := 28, col := 17, endLine := 28, endCol := 21 : PySem.Pos } : PySem.Arg }, { arg := PySem.Str.ofString "number", annotation := Option.none, pos := { line := 28, col := 23, endLine := 28, endCol := 29 : PySem.Pos } : PySem.Arg }, { arg := PySem.Str.ofString "told", annotation := Option.none, pos := { line := 28, col := 31, endLine := 28, endCol := 35 : PySem.Pos } : PySem.Arg }], vararg := Option.none, kwonlyargs := [], kw_defaults := [], kwarg := Option.none, defaults := [PySem.Expr.Constant (PySem.Const.str (PySem.Str.ofString "")) 0 { line := 28, col := 36, endLine := 28, endCol := 38 : PySem.Pos }] : PySem.Arguments }, body := PySem.FuncBody.stmts b, scope := { kind := PySem.ScopeKind.function, names := [(PySem.Str.ofString "self", PySem.NameKind.local), (PySem.Str.ofString "number", PySem.NameKind.local), (PySem.Str.ofString "told", PySem.NameKind.local), (PySem.Str.ofString "__class__", PySem.NameKind.free), (PySem.Str.ofString "super", PySem.NameKind.globalImplicit)], isGenerator := Bool.false, isCoroutine := Bool.false : PySem.Scope }, globals := 3, closure := [(PySem.Str.ofString "__class__", 53)], defaults := PySem.Value.ref 58, kwdefaults := PySem.Value.none, pyModule := PySem.Value.str (PySem.Str.ofString "snobol.values") 248, code := PySem.Value.ref 65, closureTuple := PySem.Value.ref 59 : PySem.FuncData } : PySem.Obj }) [_, _, _] (rfl : _ = fB (inAt (stAt 7) 0))
noncomputable def k_67 (P : Params) : Obj := { cls := PySem.Value.type "tuple", data := PySem.Data.seq #[PySem.Value.str (PySem.Str.ofString "number") 273, PySem.Value.str (PySem.Str.ofString "told") 274] : PySem.Obj }
noncomputable def k_68 (P : Params) : Obj := { cls := PySem.Value.type "dict", data := PySem.Data.dict #[{ hash := PySem.PyData.keyHash P (PySem.Str.ofString "__module__"), key := PySem.Value.str (PySem.Str.ofString "__module__") 257, val := PySem.Value.str (PySem.Str.ofString "snobol.values") 248 : PySem.DictEntry }, { hash := PySem.PyData.keyHash P (PySem.Str.ofString "__firstlineno__"), key := PySem.Value.str (PySem.Str.ofString "__firstlineno__") 261, val := PySem.Value.int 26 260 : PySem.DictEntry }, { hash := PySem.PyData.keyHash P (PySem.Str.ofString "__init__"), key := PySem.Value.str (PySem.Str.ofString "__init__") 272, val := PySem.Value.ref 66 : PySem.DictEntry }, { hash := PySem.PyData.keyHash P (PySem.Str.ofString "__static_attributes__"), key := PySem.Value.str (PySem.Str.ofString "__static_attributes__") 275, val := PySem.Value.ref 67 : PySem.DictEntry }, { hash := PySem.PyData.keyHash P (PySem.Str.ofString "__weakref__"), key := PySem.Value.str (PySem.Str.ofString "__weakref__") 278, val := PySem.Value.ref 70 : PySem.DictEntry }, { hash := PySem.PyData.keyHash P (PySem.Str.ofString "__doc__"), key := PySem.Value.str (PySem.Str.ofString "__doc__") 279, val := PySem.Value.none : PySem.DictEntry }] 4 : PySem.Obj }
noncomputable def k_69 (P : Params) : Obj := { cls := PySem.Value.type "type", data := PySem.Data.cls { name := PySem.Str.ofString "SnobolError", bases := [PySem.Value.type "Exception"], mro := [PySem.Value.ref 69, PySem.Value.type "Exception", PySem.Value.type "BaseException", PySem.Value.type "object"], ns := 68, qualname := PySem.Str.ofString "SnobolError" : PySem.ClassData }, slots := #[Option.some (PySem.Value.ref 50), Option.none, Option.some (PySem.Value.str (PySem.Str.ofString "SnobolError") 250), Option.some (PySem.Value.str (PySem.Str.ofString "SnobolError") 258), Option.some (PySem.Value.builtin "Exception.__new__"), Option.some (PySem.Value.bool Bool.true)] : PySem.Obj }
noncomputable def k_70 (P : Params) : Obj := { cls := PySem.Value.type "getset_descriptor", data := PySem.Data.fields #[PySem.Value.str (PySem.Str.ofString "__weakref__") 277, PySem.Value.ref 69, PySem.Value.builtin "ExceptionGroup.__weakref__", PySem.Value.none] : PySem.Obj }
noncomputable def k_80 (P : Params) : Obj := { cls := PySem.Value.type "tuple", data := PySem.Data.seq #[] : PySem.Obj }
noncomputable def k_81 (P : Params) : Obj := { cls := PySem.Value.type "dict", data := PySem.Data.dict #[{ hash := PySem.PyData.keyHash P (PySem.Str.ofString "__module__"), key := PySem.Value.str (PySem.Str.ofString "__module__") 291, val := PySem.Value.str (PySem.Str.ofString "snobol.values") 248 : PySem.DictEntry }, { hash := PySem.PyData.keyHash P (PySem.Str.ofString "__firstlineno__"), key := PySem.Value.str (PySem.Str.ofString "__firstlineno__") 295, val := PySem.Value.int 32 294 : PySem.DictEntry }, { hash := PySem.PyData.keyHash P (PySem.Str.ofString "__static_attributes__"), key := PySem.Value.str (PySem.Str.ofString "__static_attributes__") 296, val := PySem.Value.ref 80 : PySem.DictEntry }, { hash := PySem.PyData.keyHash P (PySem.Str.ofString "__dict__"), key := PySem.Value.str (PySem.Str.ofString "__dict__") 298, val := PySem.Value.ref 83 : PySem.DictEntry }, { hash := PySem.PyData.keyHash P (PySem.Str.ofString "__weakref__"), key := PySem.Value.str (PySem.Str.ofString "__weakref__") 300, val := PySem.Value.ref 84 : PySem.DictEntry }, { hash := PySem.PyData.keyHash P (PySem.Str.ofString "__doc__"), key := PySem.Value.str (PySem.Str.ofString "__doc__") 301, val := PySem.Value.none : PySem.DictEntry }] 4 : PySem.Obj }
noncomputable def k_82 (P : Params) : Obj := { cls := PySem.Value.type "type", data := PySem.Data.cls { name := PySem.Str.ofString "Failure", bases := [PySem.Value.type "object"], mro := [PySem.Value.ref 82, PySem.Value.type "object"], ns := 81, qualname := PySem.Str.ofString "Failure" : PySem.ClassData }, slots := #[Option.none, Option.none, Option.some (PySem.Value.str (PySem.Str.ofString "Failure") 284), Option.some (PySem.Value.str (PySem.Str.ofString "Failure") 292), Option.some (PySem.Value.builtin "object.__new__"), Option.some (PySem.Value.bool Bool.true)] : PySem.Obj }
noncomputable def k_83 (P : Params) : Obj := { cls := PySem.Value.type "getset_descriptor", data := PySem.Data.fields #[PySem.Value.str (PySem.Str.ofString "__dict__") 297, PySem.Value.ref 82, PySem.Value.builtin "function.__dict__", PySem.Value.builtin "function.__dict__#set"] : PySem.Obj }
noncomputable def k_84 (P : Params) : Obj := { cls := PySem.Value.type "getset_descriptor", data := PySem.Data.fields #[PySem.Value.str (PySem.Str.ofString "__weakref__") 299, PySem.Value.ref 82, PySem.Value.builtin "ExceptionGroup.__weakref__", PySem.Value.none] : PySem.Obj }
noncomputable def k_94 (P : Params) : Obj := { cls := PySem.Value.type "tuple", data := PySem.Data.seq #[] : PySem.Obj }
noncomputable def k_96 (P : Params) : Obj := { cls := PySem.Value.type "tuple", data := PySem.Data.seq #[PySem.Value.str (PySem.Str.ofString "self") 319, PySem.Value.str (PySem.Str.ofString "node") 320] : PySem.Obj }
noncomputable def k_97 (P : Params) : Obj := { cls := PySem.Value.type "tuple", data := PySem.Data.seq #[] : PySem.Obj }
noncomputable def k_99 (P : Params) : Obj := { cls := PySem.Value.type "code", data := PySem.Data.fields #[PySem.Value.str (PySem.Str.ofString "__init__") 316, PySem.Value.str (PySem.Str.ofString "Pattern.__init__") 317, PySem.Value.str (PySem.Str.ofString "/claim/cut.py") 318, PySem.Value.int 36 0, PySem.Value.int 2 0, PySem.Value.int 0 0, PySem.Value.int 0 0, PySem.Value.int 3 0, PySem.Value.ref 94, PySem.Value.bool Bool.true, PySem.Value.int 181 0, PySem.Value.ref 95, PySem.Value.none, PySem.Value.ref 96, PySem.Value.ref 97, PySem.Value.ref 98, PySem.Value.int 321 0, PySem.Value.int 36 0, PySem.Value.str (PySem.Str.ofString "/claim/cut.py") 322] : PySem.Obj }
noncomputable def k_100 (P : Params) : Obj := wb (fun b => { cls := PySem.Value.type "function", data := PySem.Data.func { name := PySem.Str.ofString "__init__", qualname := PySem.Str.ofString "Pattern.__init__", params := { posonlyargs := [], args := [{ arg := PySem.Str.ofString "self", annotation := Option.none, pos := { line := 36, col := 17, endLine := 36, endCol := 21 : PySem.Pos } : PySem.Arg }, { arg := PySem.Str.ofString "node", annotation := Option.none, pos := { line := 36, col := 23, endLine := 36, endCol := 27 : PySem.Pos } : PySem.Arg }], vararg := Option.none, kwonlyargs := [], kw_defaults := [], kwarg := Option.none, defaults := [] : PySem.Arguments }, body := PySem.FuncBody.stmts b, scope := { kind := PySem.ScopeKind.function, names := [(PySem.Str.ofString "self", PySem.NameKind.local), (PySem.Str.ofString "node", PySem.NameKind.local)], isGenerator := Bool.false, isCoroutine := Bool.false : PySem.Scope }, globals := 3, closure := [], defaults := PySem.Value.none, kwdefaults := PySem.Value.none, pyModule := PySem.Value.str (PySem.Str.ofString "snobol.values") 248, code := PySem.Value.ref 99 : PySem.FuncData } : PySem.Obj }) [_] (rfl : _ = fB (inAt (stAt 9) 0))
noncomputable def k_101 (P : Params) : Obj := { cls := PySem.Value.type "tuple", data := PySem.Data.seq #[PySem.Value.str (PySem.Str.ofString "node") 324] : PySem.Obj }
noncomputable def k_102 (P : Params) : Obj := { cls := PySem.Value.type "dict", data := PySem.Data.dict #[{ hash := PySem.PyData.keyHash P (PySem.Str.ofString "__module__"), key := PySem.Value.str (PySem.Str.ofString "__module__") 311, val := PySem.Value.str (PySem.Str.ofString "snobol.values") 248 : PySem.DictEntry }, { hash := PySem.PyData.keyHash P (PySem.Str.ofString "__firstlineno__"), key := PySem.Value.str (PySem.Str.ofString "__firstlineno__") 315, val := PySem.Value.int 34 314 : PySem.DictEntry }, { hash := PySem.PyData.keyHash P (PySem.Str.ofString "__init__"), key := PySem.Value.str (PySem.Str.ofString "__init__") 323, val := PySem.Value.ref 100 : PySem.DictEntry }, { hash := PySem.PyData.keyHash P (PySem.Str.ofString "__static_attributes__"), key := PySem.Value.str (PySem.Str.ofString "__static_attributes__") 325, val := PySem.Value.ref 101 : PySem.DictEntry }, { hash := PySem.PyData.keyHash P (PySem.Str.ofString "__dict__"), key := PySem.Value.str (PySem.Str.ofString "__dict__") 327, val := PySem.Value.ref 104 : PySem.DictEntry }, { hash := PySem.PyData.keyHash P (PySem.Str.ofString "__weakref__"), key := PySem.Value.str (PySem.Str.ofString "__weakref__") 329, val := PySem.Value.ref 105 : PySem.DictEntry }, { hash := PySem.PyData.keyHash P (PySem.Str.ofString "__doc__"), key := PySem.Value.str (PySem.Str.ofString "__doc__") 330, val := PySem.Value.none : PySem.DictEntry }] 4 : PySem.Obj }
noncomputable def k_103 (P : Params) : Obj := { cls := PySem.Value.type "type", data := PySem.Data.cls { name := PySem.Str.ofString "Pattern", bases := [PySem.Value.type "object"], mro := [PySem.Value.ref 103, PySem.Value.type "object"], ns := 102, qualname := PySem.Str.ofString "Pattern" : PySem.ClassData }, slots := #[Option.none, Option.none, Option.some (PySem.Value.str (PySem.Str.ofString "Pattern") 304), Option.some (PySem.Value.str (PySem.Str.ofString "Pattern") 312), Option.some (PySem.Value.builtin "object.__new__"), Option.some (PySem.Value.bool Bool.true)] : PySem.Obj }
noncomputable def k_104 (P : Params) : Obj := { cls := PySem.Value.type "getset_descriptor", data := PySem.Data.fields #[PySem.Value.str (PySem.Str.ofString "__dict__") 326, PySem.Value.ref 103, PySem.Value.builtin "function.__dict__", PySem.Value.builtin "function.__dict__#set"] : PySem.Obj }
noncomputable def k_105 (P : Params) : Obj := { cls := PySem.Value.type "getset_descriptor", data := PySem.Data.fields #[PySem.Value.str (PySem.Str.ofString "__weakref__") 328, PySem.Value.ref 103, PySem.Value.builtin "ExceptionGroup.__weakref__", PySem.Value.none] : PySem.Obj }
noncomputable def k_115 (P : Params) : Obj := { cls := PySem.Value.type "tuple", data := PySem.Data.seq #[] : PySem.Obj }
noncomputable def k_117 (P : Params) : Obj := { cls := PySem.Value.type "tuple", data := PySem.Data.seq #[PySem.Value.str (PySem.Str.ofString "self") 348, PySem.Value.str (PySem.Str.ofString "tree") 349] : PySem.Obj }
noncomputable def k_118 (P : Params) : Obj := { cls := PySem.Value.type "tuple", data := PySem.Data.seq #[] : PySem.Obj }
noncomputable def k_120 (P : Params) : Obj := { cls := PySem.Value.type "code", data := PySem.Data.fields #[PySem.Value.str (PySem.Str.ofString "__init__") 345, PySem.Value.str (PySem.Str.ofString "Delayed.__init__") 346, PySem.Value.str (PySem.Str.ofString "/claim/cut.py") 347, PySem.Value.int 40 0, PySem.Value.int 2 0, PySem.Value.int 0 0, PySem.Value.int 0 0, PySem.Value.int 3 0, PySem.Value.ref 115, PySem.Value.bool Bool.true, PySem.Value.int 181 0, PySem.Value.ref 116, PySem.Value.none, PySem.Value.ref 117, PySem.Value.ref 118, PySem.Value.ref 119, PySem.Value.int 350 0, PySem.Value.int 40 0, PySem.Value.str (PySem.Str.ofString "/claim/cut.py") 351] : PySem.Obj }
noncomputable def k_121 (P : Params) : Obj := wb (fun b => { cls := PySem.Value.type "function", data := PySem.Data.func { name := PySem.Str.ofString "__init__", qualname := PySem.Str.ofString "Delayed.__init__", params := { posonlyargs := [], args := [{ arg := PySem.Str.ofString "self", annotation := Option.none, pos := { line := 40, col := 17, endLine := 40, endCol := 21 : PySem.Pos } : PySem.Arg }, { arg := PySem.Str.ofString "tree", annotation := Option.none, pos := { line := 40, col := 23, endLine := 40, endCol := 27 : PySem.Pos } : PySem.Arg }], vararg := Option.none, kwonlyargs := [], kw_defaults := [], kwarg := Option.none, defaults := [] : PySem.Arguments }, body := PySem.FuncBody.stmts b, scope := { kind := PySem.ScopeKind.function, names := [(PySem.Str.ofString "self", PySem.NameKind.local), (PySem.Str.ofString "tree", PySem.NameKind.local)], isGenerator := Bool.false, isCoroutine := Bool.false : PySem.Scope }, globals := 3, closure := [], defaults := PySem.Value.none, kwdefaults := PySem.Value.none, pyModule := PySem.Value.str (PySem.Str.ofString "snobol.values") 248, code := PySem.Value.ref 120 : PySem.FuncData } : PySem.Obj }) [_] (rfl : _ = fB (inAt (stAt 10) 0))
noncomputable def k_122 (P : Params) : Obj := { cls := PySem.Value.type "tuple", data := PySem.Data.seq #[PySem.Value.str (PySem.Str.ofString "tree") 353] : PySem.Obj }
noncomputable def k_123 (P : Params) : Obj := { cls := PySem.Value.type "dict", data := PySem.Data.dict #[{ hash := PySem.PyData.keyHash P (PySem.Str.ofString "__module__"), key := PySem.Value.str (PySem.Str.ofString "__module__") 340, val := PySem.Value.str (PySem.Str.ofString "snobol.values") 248 : PySem.DictEntry }, { hash := PySem.PyData.keyHash P (PySem.Str.ofString "__firstlineno__"), key := PySem.Value.str (PySem.Str.ofString "__firstlineno__") 344, val := PySem.Value.int 38 343 : PySem.DictEntry }, { hash := PySem.PyData.keyHash P (PySem.Str.ofString "__init__"), key := PySem.Value.str (PySem.Str.ofString "__init__") 352, val := PySem.Value.ref 121 : PySem.DictEntry }, { hash := PySem.PyData.keyHash P (PySem.Str.ofString "__static_attributes__"), key := PySem.Value.str (PySem.Str.ofString "__static_attributes__") 354, val := PySem.Value.ref 122 : PySem.DictEntry }, { hash := PySem.PyData.keyHash P (PySem.Str.ofString "__dict__"), key := PySem.Value.str (PySem.Str.ofString "__dict__") 356, val := PySem.Value.ref 125 : PySem.DictEntry }, { hash := PySem.PyData.keyHash P (PySem.Str.ofString "__weakref__"), key := PySem.Value.str (PySem.Str.ofString "__weakref__") 358, val := PySem.Value.ref 126 : PySem.DictEntry }, { hash := PySem.PyData.keyHash P (PySem.Str.ofString "__doc__"), key := PySem.Value.str (PySem.Str.ofString "__doc__") 359, val := PySem.Value.none : PySem.DictEntry }] 4 : PySem.Obj }
noncomputable def k_124 (P : Params) : Obj := { cls := PySem.Value.type "type", data := PySem.Data.cls { name := PySem.Str.ofString "Delayed", bases := [PySem.Value.type "object"], mro := [PySem.Value.ref 124, PySem.Value.type "object"], ns := 123, qualname := PySem.Str.ofString "Delayed" : PySem.ClassData }, slots := #[Option.none, Option.none, Option.some (PySem.Value.str (PySem.Str.ofString "Delayed") 333), Option.some (PySem.Value.str (PySem.Str.ofString "Delayed") 341), Option.some (PySem.Value.builtin "object.__new__"), Option.some (PySem.Value.bool Bool.true)] : PySem.Obj }
noncomputable def k_125 (P : Params) : Obj := { cls := PySem.Value.type "getset_descriptor", data := PySem.Data.fields #[PySem.Value.str (PySem.Str.ofString "__dict__") 355, PySem.Value.ref 124, PySem.Value.builtin "function.__dict__", PySem.Value.builtin "function.__dict__#set"] : PySem.Obj }
noncomputable def k_126 (P : Params) : Obj := { cls := PySem.Value.type "getset_descriptor", data := PySem.Data.fields #[PySem.Value.str (PySem.Str.ofString "__weakref__") 357, PySem.Value.ref 124, PySem.Value.builtin "ExceptionGroup.__weakref__", PySem.Value.none] : PySem.Obj }
noncomputable def k_136 (P : Params) : Obj := { cls := PySem.Value.type "tuple", data := PySem.Data.seq #[] : PySem.Obj }
noncomputable def k_138 (P : Params) : Obj := { cls := PySem.Value.type "tuple", data := PySem.Data.seq #[PySem.Value.str (PySem.Str.ofString "self") 377, PySem.Value.str (PySem.Str.ofString "kind") 378, PySem.Value.str (PySem.Str.ofString "owner") 379, PySem.Value.str (PySem.Str.ofString "key") 380] : PySem.Obj }
noncomputable def k_139 (P : Params) : Obj := { cls := PySem.Value.type "tuple", data := PySem.Data.seq #[] : PySem.Obj }
noncomputable def k_141 (P : Params) : Obj := { cls := PySem.Value.type "code", data := PySem.Data.fields #[PySem.Value.str (PySem.Str.ofString "__init__") 374, PySem.Value.str (PySem.Str.ofString "NameRef.__init__") 375, PySem.Value.str (PySem.Str.ofString "/claim/cut.py") 376, PySem.Value.int 44 0, PySem.Value.int 4 0, PySem.Value.int 0 0, PySem.Value.int 0 0, PySem.Value.int 3 0, PySem.Value.ref 136, PySem.Value.bool Bool.true, PySem.Value.int 181 0, PySem.Value.ref 137, PySem.Value.none, PySem.Value.ref 138, PySem.Value.ref 139, PySem.Value.ref 140, PySem.Value.int 381 0, PySem.Value.int 44 0, PySem.Value.str (PySem.Str.ofString "/claim/cut.py") 382] : PySem.Obj }
noncomputable def k_142 (P : Params) : Obj := wb (fun b => { cls := PySem.Value.type "function", data := PySem.Data.func { name := PySem.Str.ofString "__init__", qualname := PySem.Str.ofString "NameRef.__init__", params := { posonlyargs := [], args := [{ arg := PySem.Str.ofString "self", annotation := Option.none, pos := { line := 44, col := 17, endLine := 44, endCol := 21 : PySem.Pos } : PySem.Arg }, { arg := PySem.Str.ofString "kind", annotation := Option.none, pos := { line := 44, col := 23, endLine := 44, endCol := 27 : PySem.Pos } : PySem.Arg }, { arg := PySem.Str.ofString "owner", annotation := Option.none, pos := { line := 44, col := 29, endLine := 44, endCol := 34 : PySem.Pos } : PySem.Arg }, { arg := PySem.Str.ofString "key", annotation := Option.none, pos := { line := 44, col := 36, endLine := 44, endCol := 39 : PySem.Pos } : PySem.Arg }], vararg := Option.none, kwonlyargs := [], kw_defaults := [], kwarg := Option.none, defaults := [] : PySem.Arguments }, body := PySem.FuncBody.stmts b, scope := { kind := PySem.ScopeKind.function, names := [(PySem.Str.ofString "self", PySem.NameKind.local), (PySem.Str.ofString "kind", PySem.NameKind.local), (PySem.Str.ofString "owner", PySem.NameKind.local), (PySem.Str.ofString "key", PySem.NameKind.local)], isGenerator := Bool.false, isCoroutine := Bool.false : PySem.Scope }, globals := 3, closure := [], defaults := PySem.Value.none, kwdefaults := PySem.Value.none, pyModule := PySem.Value.str (PySem.Str.ofString "snobol.values") 248, code := PySem.Value.ref 141 : PySem.FuncData } : PySem.Obj }) [_, _, _] (rfl : _ = fB (inAt (stAt 11) 0))
noncomputable def k_143 (P : Params) : Obj := { cls := PySem.Value.type "tuple", data := PySem.Data.seq #[PySem.Value.str (PySem.Str.ofString "key") 384, PySem.Value.str (PySem.Str.ofString "kind") 385, PySem.Value.str (PySem.Str.ofString "owner") 386] : PySem.Obj }
noncomputable def k_144 (P : Params) : Obj := { cls := PySem.Value.type "dict", data := PySem.Data.dict #[{ hash := PySem.PyData.keyHash P (PySem.Str.ofString "__module__"), key := PySem.Value.str (PySem.Str.ofString "__module__") 369, val := PySem.Value.str (PySem.Str.ofString "snobol.values") 248 : PySem.DictEntry }, { hash := PySem.PyData.keyHash P (PySem.Str.ofString "__firstlineno__"), key := PySem.Value.str (PySem.Str.ofString "__firstlineno__") 373, val := PySem.Value.int 42 372 : PySem.DictEntry }, { hash := PySem.PyData.keyHash P (PySem.Str.ofString "__init__"), key := PySem.Value.str (PySem.Str.ofString "__init__") 383, val := PySem.Value.ref 142 : PySem.DictEntry }, { hash := PySem.PyData.keyHash P (PySem.Str.ofString "__static_attributes__"), key := PySem.Value.str (PySem.Str.ofString "__static_attributes__") 387, val := PySem.Value.ref 143 : PySem.DictEntry }, { hash := PySem.PyData.keyHash P (PySem.Str.ofString "__dict__"), key := PySem.Value.str (PySem.Str.ofString "__dict__") 389, val := PySem.Value.ref 146 : PySem.DictEntry }, { hash := PySem.PyData.keyHash P (PySem.Str.ofString "__weakref__"), key := PySem.Value.str (PySem.Str.ofString "__weakref__") 391, val := PySem.Value.ref 147 : PySem.DictEntry }, { hash := PySem.PyData.keyHash P (PySem.Str.ofString "__doc__"), key := PySem.Value.str (PySem.Str.ofString "__doc__") 392, val := PySem.Value.none : PySem.DictEntry }] 4 : PySem.Obj }
noncomputable def k_145 (P : Params) : Obj := { cls := PySem.Value.type "type", data := PySem.Data.cls { name := PySem.Str.ofString "NameRef", bases := [PySem.Value.type "object"], mro := [PySem.Value.ref 145, PySem.Value.type "object"], ns := 144, qualname := PySem.Str.ofString "NameRef" : PySem.ClassData }, slots := #[Option.none, Option.none, Option.some (PySem.Value.str (PySem.Str.ofString "NameRef") 362), Option.some (PySem.Value.str (PySem.Str.ofString "NameRef") 370), Option.some (PySem.Value.builtin "object.__new__"), Option.some (PySem.Value.bool Bool.true)] : PySem.Obj }
noncomputable def k_146 (P : Params) : Obj := { cls := PySem.Value.type "getset_descriptor", data := PySem.Data.fields #[PySem.Value.str (PySem.Str.ofString "__dict__") 388, PySem.Value.ref 145, PySem.Value.builtin "function.__dict__", PySem.Value.builtin "function.__dict__#set"] : PySem.Obj }
noncomputable def k_147 (P : Params) : Obj := { cls := PySem.Value.type "getset_descriptor", data := PySem.Data.fields #[PySem.Value.str (PySem.Str.ofString "__weakref__") 390, PySem.Value.ref 145, PySem.Value.builtin "ExceptionGroup.__weakref__", PySem.Value.none] : PySem.Obj }
noncomputable def k_150 (P : Params) : Obj := { cls := PySem.Value.type "tuple", data := PySem.Data.seq #[] : PySem.Obj }
noncomputable def k_152 (P : Params) : Obj := { cls := PySem.Value.type "tuple", data := PySem.Data.seq #[PySem.Value.str (PySem.Str.ofString "value") 398] : PySem.Obj }
noncomputable def k_153 (P : Params) : Obj := { cls := PySem.Value.type "tuple", data := PySem.Data.seq #[] : PySem.Obj }
noncomputable def k_155 (P : Params) : Obj := { cls := PySem.Value.type "code", data := PySem.Data.fields #[PySem.Value.str (PySem.Str.ofString "is_fail") 395, PySem.Value.str (PySem.Str.ofString "is_fail") 396, PySem.Value.str (PySem.Str.ofString "/claim/cut.py") 397, PySem.Value.int 48 0, PySem.Value.int 1 0, PySem.Value.int 0 0, PySem.Value.int 0 0, PySem.Value.int 3 0, PySem.Value.ref 150, PySem.Value.bool Bool.true, PySem.Value.int 181 0, PySem.Value.ref 151, PySem.Value.none, PySem.Value.ref 152, PySem.Value.ref 153, PySem.Value.ref 154, PySem.Value.int 399 0, PySem.Value.int 48 0, PySem.Value.str (PySem.Str.ofString "/claim/cut.py") 400] : PySem.Obj }
noncomputable def k_156 (P : Params) : Obj := wb (fun b => { cls := PySem.Value.type "function", data := PySem.Data.func { name := PySem.Str.ofString "is_fail", qualname := PySem.Str.ofString "is_fail", params := { posonlyargs := [], args := [{ arg := PySem.Str.ofString "value", annotation := Option.none, pos := { line := 48, col := 12, endLine := 48, endCol := 17 : PySem.Pos } : PySem.Arg }], vararg := Option.none, kwonlyargs := [], kw_defaults := [], kwarg := Option.none, defaults := [] : PySem.Arguments }, body := PySem.FuncBody.stmts b, scope := { kind := PySem.ScopeKind.function, names := [(PySem.Str.ofString "value", PySem.NameKind.local), (PySem.Str.ofString "isinstance", PySem.NameKind.globalImplicit), (PySem.Str.ofString "Failure", PySem.NameKind.globalImplicit)], isGenerator := Bool.false, isCoroutine := Bool.false : PySem.Scope }, globals := 3, closure := [], defaults := PySem.Value.none, kwdefaults := PySem.Value.none, pyModule := PySem.Value.str (PySem.Str.ofString "snobol.values") 248, code := PySem.Value.ref 155 : PySem.FuncData } : PySem.Obj }) [_] (rfl : _ = fB (stAt 12))
noncomputable def k_157 (P : Params) : Obj := { cls := PySem.Value.type "tuple", data := PySem.Data.seq #[] : PySem.Obj }
noncomputable def k_159 (P : Params) : Obj := { cls := PySem.Value.type "tuple", data := PySem.Data.seq #[PySem.Value.str (PySem.Str.ofString "number") 405, PySem.Value.str (PySem.Str.ofString "width") 406] : PySem.Obj }
noncomputable def k_160 (P : Params) : Obj := { cls := PySem.Value.type "tuple", data := PySem.Data.seq #[] : PySem.Obj }
noncomputable def k_162 (P : Params) : Obj := { cls := PySem.Value.type "code", data := PySem.Data.fields #[PySem.Value.str (PySem.Str.ofString "fits") 402, PySem.Value.str (PySem.Str.ofString "fits") 403, PySem.Value.str (PySem.Str.ofString "/claim/cut.py") 404, PySem.Value.int 50 0, PySem.Value.int 2 0, PySem.Value.int 0 0, PySem.Value.int 0 0, PySem.Value.int 3 0, PySem.Value.ref 157, PySem.Value.bool Bool.true, PySem.Value.int 181 0, PySem.Value.ref 158, PySem.Value.none, PySem.Value.ref 159, PySem.Value.ref 160, PySem.Value.ref 161, PySem.Value.int 407 0, PySem.Value.int 50 0, PySem.Value.str (PySem.Str.ofString "/claim/cut.py") 408] : PySem.Obj }
noncomputable def k_163 (P : Params) : Obj := wb (fun b => { cls := PySem.Value.type "function", data := PySem.Data.func { name := PySem.Str.ofString "fits", qualname := PySem.Str.ofString "fits", params := { posonlyargs := [], args := [{ arg := PySem.Str.ofString "number", annotation := Option.none, pos := { line := 50, col := 9, endLine := 50, endCol := 15 : PySem.Pos } : PySem.Arg }, { arg := PySem.Str.ofString "width", annotation := Option.none, pos := { line := 50, col := 17, endLine := 50, endCol := 22 : PySem.Pos } : PySem.Arg }], vararg := Option.none, kwonlyargs := [], kw_defaults := [], kwarg := Option.none, defaults := [] : PySem.Arguments }, body := PySem.FuncBody.stmts b, scope := { kind := PySem.ScopeKind.function, names := [(PySem.Str.ofString "number", PySem.NameKind.local), (PySem.Str.ofString "width", PySem.NameKind.local)], isGenerator := Bool.false, isCoroutine := Bool.false : PySem.Scope }, globals := 3, closure := [], defaults := PySem.Value.none, kwdefaults := PySem.Value.none, pyModule := PySem.Value.str (PySem.Str.ofString "snobol.values") 248, code := PySem.Value.ref 162 : PySem.FuncData } : PySem.Obj }) [_] (rfl : _ = fB (stAt 13))
noncomputable def k_164 (P : Params) : Obj := { cls := PySem.Value.type "tuple", data := PySem.Data.seq #[] : PySem.Obj }
noncomputable def k_166 (P : Params) : Obj := { cls := PySem.Value.type "tuple", data := PySem.Data.seq #[PySem.Value.str (PySem.Str.ofString "text") 413, PySem.Value.str (PySem.Str.ofString "width") 414, PySem.Value.str (PySem.Str.ofString "digits") 415, PySem.Value.str (PySem.Str.ofString "number") 416, PySem.Value.str (PySem.Str.ofString "sign") 417] : PySem.Obj }
noncomputable def k_167 (P : Params) : Obj := { cls := PySem.Value.type "tuple", data := PySem.Data.seq #[] : PySem.Obj }
noncomputable def k_169 (P : Params) : Obj := { cls := PySem.Value.type "code", data := PySem.Data.fields #[PySem.Value.str (PySem.Str.ofString "whole_of_text") 410, PySem.Value.str (PySem.Str.ofString "whole_of_text") 411, PySem.Value.str (PySem.Str.ofString "/claim/cut.py") 412, PySem.Value.int 52 0, PySem.Value.int 2 0, PySem.Value.int 0 0, PySem.Value.int 0 0, PySem.Value.int 3 0, PySem.Value.ref 164, PySem.Value.bool Bool.true, PySem.Value.int 181 0, PySem.Value.ref 165, PySem.Value.none, PySem.Value.ref 166, PySem.Value.ref 167, PySem.Value.ref 168, PySem.Value.int 418 0, PySem.Value.int 52 0, PySem.Value.str (PySem.Str.ofString "/claim/cut.py") 419] : PySem.Obj }
noncomputable def k_170 (P : Params) : Obj := wb (fun b => { cls := PySem.Value.type "function", data := PySem.Data.func { name := PySem.Str.ofString "whole_of_text", qualname := PySem.Str.ofString "whole_of_text", params := { posonlyargs := [], args := [{ arg := PySem.Str.ofString "text", annotation := Option.none, pos := { line := 52, col := 18, endLine := 52, endCol := 22 : PySem.Pos } : PySem.Arg }, { arg := PySem.Str.ofString "width", annotation := Option.none, pos := { line := 52, col := 24, endLine := 52, endCol := 29 : PySem.Pos } : PySem.Arg }], vararg := Option.none, kwonlyargs := [], kw_defaults := [], kwarg := Option.none, defaults := [] : PySem.Arguments }, body := PySem.FuncBody.stmts b, scope := { kind := PySem.ScopeKind.function, names := [(PySem.Str.ofString "text", PySem.NameKind.local), (PySem.Str.ofString "width", PySem.NameKind.local), (PySem.Str.ofString "digits", PySem.NameKind.local), (PySem.Str.ofString "number", PySem.NameKind.local), (PySem.Str.ofString "sign", PySem.NameKind.local), (PySem.Str.ofString "len", PySem.NameKind.globalImplicit), (PySem.Str.ofString "ord", PySem.NameKind.globalImplicit), (PySem.Str.ofString "fits", PySem.NameKind.globalImplicit)], isGenerator := Bool.false, isCoroutine := Bool.false : PySem.Scope }, globals := 3, closure := [], defaults := PySem.Value.none, kwdefaults := PySem.Value.none, pyModule := PySem.Value.str (PySem.Str.ofString "snobol.values") 248, code := PySem.Value.ref 169 : PySem.FuncData } : PySem.Obj }) [_, _, _, _, _, _, _] (rfl : _ = fB (stAt 14))
noncomputable def k_171 (P : Params) : Obj := { cls := PySem.Value.type "tuple", data := PySem.Data.seq #[] : PySem.Obj }
noncomputable def k_173 (P : Params) : Obj := { cls := PySem.Value.type "tuple", data := PySem.Data.seq #[PySem.Value.str (PySem.Str.ofString "number") 424, PySem.Value.str (PySem.Str.ofString "left") 425, PySem.Value.str (PySem.Str.ofString "found") 426] : PySem.Obj }
noncomputable def k_174 (P : Params) : Obj := { cls := PySem.Value.type "tuple", data := PySem.Data.seq #[] : PySem.Obj }
noncomputable def k_176 (P : Params) : Obj := { cls := PySem.Value.type "code", data := PySem.Data.fields #[PySem.Value.str (PySem.Str.ofString "text_of_whole") 421, PySem.Value.str (PySem.Str.ofString "text_of_whole") 422, PySem.Value.str (PySem.Str.ofString "/claim/cut.py") 423, PySem.Value.int 65 0, PySem.Value.int 1 0, PySem.Value.int 0 0, PySem.Value.int 0 0, PySem.Value.int 3 0, PySem.Value.ref 171, PySem.Value.bool Bool.true, PySem.Value.int 181 0, PySem.Value.ref 172, PySem.Value.none, PySem.Value.ref 173, PySem.Value.ref 174, PySem.Value.ref 175, PySem.Value.int 427 0, PySem.Value.int 65 0, PySem.Value.str (PySem.Str.ofString "/claim/cut.py") 428] : PySem.Obj }
noncomputable def k_177 (P : Params) : Obj := wb (fun b => { cls := PySem.Value.type "function", data := PySem.Data.func { name := PySem.Str.ofString "text_of_whole", qualname := PySem.Str.ofString "text_of_whole", params := { posonlyargs := [], args := [{ arg := PySem.Str.ofString "number", annotation := Option.none, pos := { line := 65, col := 18, endLine := 65, endCol := 24 : PySem.Pos } : PySem.Arg }], vararg := Option.none, kwonlyargs := [], kw_defaults := [], kwarg := Option.none, defaults := [] : PySem.Arguments }, body := PySem.FuncBody.stmts b, scope := { kind := PySem.ScopeKind.function, names := [(PySem.Str.ofString "number", PySem.NameKind.local), (PySem.Str.ofString "left", PySem.NameKind.local), (PySem.Str.ofString "found", PySem.NameKind.local), (PySem.Str.ofString "abs", PySem.NameKind.globalImplicit), (PySem.Str.ofString "chr", PySem.NameKind.globalImplicit)], isGenerator := Bool.false, isCoroutine := Bool.false : PySem.Scope }, globals := 3, closure := [], defaults := PySem.Value.none, kwdefaults := PySem.Value.none, pyModule := PySem.Value.str (PySem.Str.ofString "snobol.values") 248, code := PySem.Value.ref 176 : PySem.FuncData } : PySem.Obj }) [_, _, _] (rfl : _ = fB (stAt 15))
noncomputable def k_178 (P : Params) : Obj := { cls := PySem.Value.type "tuple", data := PySem.Data.seq #[] : PySem.Obj }
noncomputable def k_180 (P : Params) : Obj := { cls := PySem.Value.type "tuple", data := PySem.Data.seq #[PySem.Value.str (PySem.Str.ofString "value") 433, PySem.Value.str (PySem.Str.ofString "width") 434] : PySem.Obj }
noncomputable def k_181 (P : Params) : Obj := { cls := PySem.Value.type "tuple", data := PySem.Data.seq #[] : PySem.Obj }
noncomputable def k_183 (P : Params) : Obj := { cls := PySem.Value.type "code", data := PySem.Data.fields #[PySem.Value.str (PySem.Str.ofString "to_whole") 430, PySem.Value.str (PySem.Str.ofString "to_whole") 431, PySem.Value.str (PySem.Str.ofString "/claim/cut.py") 432, PySem.Value.int 71 0, PySem.Value.int 2 0, PySem.Value.int 0 0, PySem.Value.int 0 0, PySem.Value.int 3 0, PySem.Value.ref 178, PySem.Value.bool Bool.true, PySem.Value.int 181 0, PySem.Value.ref 179, PySem.Value.none, PySem.Value.ref 180, PySem.Value.ref 181, PySem.Value.ref 182, PySem.Value.int 435 0, PySem.Value.int 71 0, PySem.Value.str (PySem.Str.ofString "/claim/cut.py") 436] : PySem.Obj }
noncomputable def k_184 (P : Params) : Obj := wb (fun b => { cls := PySem.Value.type "function", data := PySem.Data.func { name := PySem.Str.ofString "to_whole", qualname := PySem.Str.ofString "to_whole", params := { posonlyargs := [], args := [{ arg := PySem.Str.ofString "value", annotation := Option.none, pos := { line := 71, col := 13, endLine := 71, endCol := 18 : PySem.Pos } : PySem.Arg }, { arg := PySem.Str.ofString "width", annotation := Option.none, pos := { line := 71, col := 20, endLine := 71, endCol := 25 : PySem.Pos } : PySem.Arg }], vararg := Option.none, kwonlyargs := [], kw_defaults := [], kwarg := Option.none, defaults := [] : PySem.Arguments }, body := PySem.FuncBody.stmts b, scope := { kind := PySem.ScopeKind.function, names := [(PySem.Str.ofString "value", PySem.NameKind.local), (PySem.Str.ofString "width", PySem.NameKind.local), (PySem.Str.ofString "isinstance", PySem.NameKind.globalImplicit), (PySem.Str.ofString "int", PySem.NameKind.globalImplicit), (PySem.Str.ofString "str", PySem.NameKind.globalImplicit), (PySem.Str.ofString "whole_of_text", PySem.NameKind.globalImplicit)], isGenerator := Bool.false, isCoroutine := Bool.false : PySem.Scope }, globals := 3, closure := [], defaults := PySem.Value.none, kwdefaults := PySem.Value.none, pyModule := PySem.Value.str (PySem.Str.ofString "snobol.values") 248, code := PySem.Value.ref 183 : PySem.FuncData } : PySem.Obj }) [_, _] (rfl : _ = fB (stAt 16))
noncomputable def k_185 (P : Params) : Obj := { cls := PySem.Value.type "tuple", data := PySem.Data.seq #[] : PySem.Obj }
noncomputable def k_187 (P : Params) : Obj := { cls := PySem.Value.type "tuple", data := PySem.Data.seq #[PySem.Value.str (PySem.Str.ofString "value") 441] : PySem.Obj }
noncomputable def k_188 (P : Params) : Obj := { cls := PySem.Value.type "tuple", data := PySem.Data.seq #[] : PySem.Obj }
noncomputable def k_190 (P : Params) : Obj := { cls := PySem.Value.type "code", data := PySem.Data.fields #[PySem.Value.str (PySem.Str.ofString "to_text") 438, PySem.Value.str (PySem.Str.ofString "to_text") 439, PySem.Value.str (PySem.Str.ofString "/claim/cut.py") 440, PySem.Value.int 75 0, PySem.Value.int 1 0, PySem.Value.int 0 0, PySem.Value.int 0 0, PySem.Value.int 3 0, PySem.Value.ref 185, PySem.Value.bool Bool.true, PySem.Value.int 181 0, PySem.Value.ref 186, PySem.Value.none, PySem.Value.ref 187, PySem.Value.ref 188, PySem.Value.ref 189, PySem.Value.int 442 0, PySem.Value.int 75 0, PySem.Value.str (PySem.Str.ofString "/claim/cut.py") 443] : PySem.Obj }
noncomputable def k_191 (P : Params) : Obj := wb (fun b => { cls := PySem.Value.type "function", data := PySem.Data.func { name := PySem.Str.ofString "to_text", qualname := PySem.Str.ofString "to_text", params := { posonlyargs := [], args := [{ arg := PySem.Str.ofString "value", annotation := Option.none, pos := { line := 75, col := 12, endLine := 75, endCol := 17 : PySem.Pos } : PySem.Arg }], vararg := Option.none, kwonlyargs := [], kw_defaults := [], kwarg := Option.none, defaults := [] : PySem.Arguments }, body := PySem.FuncBody.stmts b, scope := { kind := PySem.ScopeKind.function, names := [(PySem.Str.ofString "value", PySem.NameKind.local), (PySem.Str.ofString "isinstance", PySem.NameKind.globalImplicit), (PySem.Str.ofString "str", PySem.NameKind.globalImplicit), (PySem.Str.ofString "int", PySem.NameKind.globalImplicit), (PySem.Str.ofString "text_of_whole", PySem.NameKind.globalImplicit)], isGenerator := Bool.false, isCoroutine := Bool.false : PySem.Scope }, globals := 3, closure := [], defaults := PySem.Value.none, kwdefaults := PySem.Value.none, pyModule := PySem.Value.str (PySem.Str.ofString "snobol.values") 248, code := PySem.Value.ref 190 : PySem.FuncData } : PySem.Obj }) [_, _] (rfl : _ = fB (stAt 17))
noncomputable def k_192 (P : Params) : Obj := { cls := PySem.Value.type "tuple", data := PySem.Data.seq #[] : PySem.Obj }
noncomputable def k_194 (P : Params) : Obj := { cls := PySem.Value.type "tuple", data := PySem.Data.seq #[PySem.Value.str (PySem.Str.ofString "value") 448, PySem.Value.str (PySem.Str.ofString "text") 449] : PySem.Obj }
noncomputable def k_195 (P : Params) : Obj := { cls := PySem.Value.type "tuple", data := PySem.Data.seq #[] : PySem.Obj }
noncomputable def k_197 (P : Params) : Obj := { cls := PySem.Value.type "code", data := PySem.Data.fields #[PySem.Value.str (PySem.Str.ofString "need_text") 445, PySem.Value.str (PySem.Str.ofString "need_text") 446, PySem.Value.str (PySem.Str.ofString "/claim/cut.py") 447, PySem.Value.int 79 0, PySem.Value.int 1 0, PySem.Value.int 0 0, PySem.Value.int 0 0, PySem.Value.int 3 0, PySem.Value.ref 192, PySem.Value.bool Bool.true, PySem.Value.int 181 0, PySem.Value.ref 193, PySem.Value.none, PySem.Value.ref 194, PySem.Value.ref 195, PySem.Value.ref 196, PySem.Value.int 450 0, PySem.Value.int 79 0, PySem.Value.str (PySem.Str.ofString "/claim/cut.py") 451] : PySem.Obj }
noncomputable def k_198 (P : Params) : Obj := wb (fun b => { cls := PySem.Value.type "function", data := PySem.Data.func { name := PySem.Str.ofString "need_text", qualname := PySem.Str.ofString "need_text", params := { posonlyargs := [], args := [{ arg := PySem.Str.ofString "value", annotation := Option.none, pos := { line := 79, col := 14, endLine := 79, endCol := 19 : PySem.Pos } : PySem.Arg }], vararg := Option.none, kwonlyargs := [], kw_defaults := [], kwarg := Option.none, defaults := [] : PySem.Arguments }, body := PySem.FuncBody.stmts b, scope := { kind := PySem.ScopeKind.function, names := [(PySem.Str.ofString "value", PySem.NameKind.local), (PySem.Str.ofString "text", PySem.NameKind.local), (PySem.Str.ofString "to_text", PySem.NameKind.globalImplicit), (PySem.Str.ofString "SnobolError", PySem.NameKind.globalImplicit)], isGenerator := Bool.false, isCoroutine := Bool.false : PySem.Scope }, globals := 3, closure := [], defaults := PySem.Value.none, kwdefaults := PySem.Value.none, pyModule := PySem.Value.str (PySem.Str.ofString "snobol.values") 248, code := PySem.Value.ref 197 : PySem.FuncData } : PySem.Obj }) [_, _, _] (rfl : _ = fB (stAt 18))
noncomputable def k_206 (P : Params) : Obj := { cls := PySem.Value.type "tuple", data := PySem.Data.seq #[] : PySem.Obj }
noncomputable def k_208 (P : Params) : Obj := { cls := PySem.Value.type "tuple", data := PySem.Data.seq #[PySem.Value.str (PySem.Str.ofString "self") 470, PySem.Value.str (PySem.Str.ofString "values") 471, PySem.Value.str (PySem.Str.ofString "limit") 472, PySem.Value.str (PySem.Str.ofString "refused") 473] : PySem.Obj }
noncomputable def k_209 (P : Params) : Obj := { cls := PySem.Value.type "tuple", data := PySem.Data.seq #[] : PySem.Obj }
noncomputable def k_211 (P : Params) : Obj := { cls := PySem.Value.type "code", data := PySem.Data.fields #[PySem.Value.str (PySem.Str.ofString "__init__") 467, PySem.Value.str (PySem.Str.ofString "PlainHost.__init__") 468, PySem.Value.str (PySem.Str.ofString "/claim/cut.py") 469, PySem.Value.int 87 0, PySem.Value.int 4 0, PySem.Value.int 0 0, PySem.Value.int 0 0, PySem.Value.int 3 0, PySem.Value.ref 206, PySem.Value.bool Bool.true, PySem.Value.int 181 0, PySem.Value.ref 207, PySem.Value.none, PySem.Value.ref 208, PySem.Value.ref 209, PySem.Value.ref 210, PySem.Value.int 474 0, PySem.Value.int 87 0, PySem.Value.str (PySem.Str.ofString "/claim/cut.py") 475] : PySem.Obj }
noncomputable def k_212 (P : Params) : Obj := wb (fun b => { cls := PySem.Value.type "function", data := PySem.Data.func { name := PySem.Str.ofString "__init__", qualname := PySem.Str.ofString "PlainHost.__init__", params := { posonlyargs := [], args := [{ arg := PySem.Str.ofString "self", annotation := Option.none, pos := { line := 87, col := 17, endLine := 87, endCol := 21 : PySem.Pos } : PySem.Arg }, { arg := PySem.Str.ofString "values", annotation := Option.none, pos := { line := 87, col := 23, endLine := 87, endCol := 29 : PySem.Pos } : PySem.Arg }, { arg := PySem.Str.ofString "limit", annotation := Option.none, pos := { line := 87, col := 31, endLine := 87, endCol := 36 : PySem.Pos } : PySem.Arg }, { arg := PySem.Str.ofString "refused", annotation := Option.none, pos := { line := 87, col := 38, endLine := 87, endCol := 45 : PySem.Pos } : PySem.Arg }], vararg := Option.none, kwonlyargs := [], kw_defaults := [], kwarg := Option.none, defaults := [] : PySem.Arguments }, body := PySem.FuncBody.stmts b, scope := { kind := PySem.ScopeKind.function, names := [(PySem.Str.ofString "self", PySem.NameKind.local), (PySem.Str.ofString "values", PySem.NameKind.local), (PySem.Str.ofString "limit", PySem.NameKind.local), (PySem.Str.ofString "refused", PySem.NameKind.local)], isGenerator := Bool.false, isCoroutine := Bool.false : PySem.Scope }, globals := 3, closure := [], defaults := PySem.Value.none, kwdefaults := PySem.Value.none, pyModule := PySem.Value.str (PySem.Str.ofString "snobol.hosts") 453, code := PySem.Value.ref 211 : PySem.FuncData } : PySem.Obj }) [_, _, _, _, _, _] (rfl : _ = fB (inAt (stAt 20) 0))
noncomputable def k_213 (P : Params) : Obj := { cls := PySem.Value.type "tuple", data := PySem.Data.seq #[] : PySem.Obj }
noncomputable def k_215 (P : Params) : Obj := { cls := PySem.Value.type "tuple", data := PySem.Data.seq #[PySem.Value.str (PySem.Str.ofString "self") 480, PySem.Value.str (PySem.Str.ofString "tree") 481] : PySem.Obj }
noncomputable def k_216 (P : Params) : Obj := { cls := PySem.Value.type "tuple", data := PySem.Data.seq #[] : PySem.Obj }
noncomputable def k_218 (P : Params) : Obj := { cls := PySem.Value.type "code", data := PySem.Data.fields #[PySem.Value.str (PySem.Str.ofString "value_of") 477, PySem.Value.str (PySem.Str.ofString "PlainHost.value_of") 478, PySem.Value.str (PySem.Str.ofString "/claim/cut.py") 479, PySem.Value.int 95 0, PySem.Value.int 2 0, PySem.Value.int 0 0, PySem.Value.int 0 0, PySem.Value.int 3 0, PySem.Value.ref 213, PySem.Value.bool Bool.true, PySem.Value.int 181 0, PySem.Value.ref 214, PySem.Value.none, PySem.Value.ref 215, PySem.Value.ref 216, PySem.Value.ref 217, PySem.Value.int 482 0, PySem.Value.int 95 0, PySem.Value.str (PySem.Str.ofString "/claim/cut.py") 483] : PySem.Obj }
noncomputable def k_219 (P : Params) : Obj := wb (fun b => { cls := PySem.Value.type "function", data := PySem.Data.func { name := PySem.Str.ofString "value_of", qualname := PySem.Str.ofString "PlainHost.value_of", params := { posonlyargs := [], args := [{ arg := PySem.Str.ofString "self", annotation := Option.none, pos := { line := 95, col := 17, endLine := 95, endCol := 21 : PySem.Pos } : PySem.Arg }, { arg := PySem.Str.ofString "tree", annotation := Option.none, pos := { line := 95, col := 23, endLine := 95, endCol := 27 : PySem.Pos } : PySem.Arg }], vararg := Option.none, kwonlyargs := [], kw_defaults := [], kwarg := Option.none, defaults := [] : PySem.Arguments }, body := PySem.FuncBody.stmts b, scope := { kind := PySem.ScopeKind.function, names := [(PySem.Str.ofString "self", PySem.NameKind.local), (PySem.Str.ofString "tree", PySem.NameKind.local), (PySem.Str.ofString "Failure", PySem.NameKind.globalImplicit)], isGenerator := Bool.false, isCoroutine := Bool.false : PySem.Scope }, globals := 3, closure := [], defaults := PySem.Value.none, kwdefaults := PySem.Value.none, pyModule := PySem.Value.str (PySem.Str.ofString "snobol.hosts") 453, code := PySem.Value.ref 218 : PySem.FuncData } : PySem.Obj }) [_, _] (rfl : _ = fB (inAt (stAt 20) 1))
noncomputable def k_220 (P : Params) : Obj := { cls := PySem.Value.type "tuple", data := PySem.Data.seq #[] : PySem.Obj }
noncomputable def k_222 (P : Params) : Obj := { cls := PySem.Value.type "tuple", data := PySem.Data.seq #[PySem.Value.str (PySem.Str.ofString "self") 488, PySem.Value.str (PySem.Str.ofString "ref") 489, PySem.Value.str (PySem.Str.ofString "value") 490] : PySem.Obj }
noncomputable def k_223 (P : Params) : Obj := { cls := PySem.Value.type "tuple", data := PySem.Data.seq #[] : PySem.Obj }
noncomputable def k_225 (P : Params) : Obj := { cls := PySem.Value.type "code", data := PySem.Data.fields #[PySem.Value.str (PySem.Str.ofString "assign") 485, PySem.Value.str (PySem.Str.ofString "PlainHost.assign") 486, PySem.Value.str (PySem.Str.ofString "/claim/cut.py") 487, PySem.Value.int 100 0, PySem.Value.int 3 0, PySem.Value.int 0 0, PySem.Value.int 0 0, PySem.Value.int 3 0, PySem.Value.ref 220, PySem.Value.bool Bool.true, PySem.Value.int 181 0, PySem.Value.ref 221, PySem.Value.none, PySem.Value.ref 222, PySem.Value.ref 223, PySem.Value.ref 224, PySem.Value.int 491 0, PySem.Value.int 100 0, PySem.Value.str (PySem.Str.ofString "/claim/cut.py") 492] : PySem.Obj }
noncomputable def k_226 (P : Params) : Obj := wb (fun b => { cls := PySem.Value.type "function", data := PySem.Data.func { name := PySem.Str.ofString "assign", qualname := PySem.Str.ofString "PlainHost.assign", params := { posonlyargs := [], args := [{ arg := PySem.Str.ofString "self", annotation := Option.none, pos := { line := 100, col := 15, endLine := 100, endCol := 19 : PySem.Pos } : PySem.Arg }, { arg := PySem.Str.ofString "ref", annotation := Option.none, pos := { line := 100, col := 21, endLine := 100, endCol := 24 : PySem.Pos } : PySem.Arg }, { arg := PySem.Str.ofString "value", annotation := Option.none, pos := { line := 100, col := 26, endLine := 100, endCol := 31 : PySem.Pos } : PySem.Arg }], vararg := Option.none, kwonlyargs := [], kw_defaults := [], kwarg := Option.none, defaults := [] : PySem.Arguments }, body := PySem.FuncBody.stmts b, scope := { kind := PySem.ScopeKind.function, names := [(PySem.Str.ofString "self", PySem.NameKind.local), (PySem.Str.ofString "ref", PySem.NameKind.local), (PySem.Str.ofString "value", PySem.NameKind.local)], isGenerator := Bool.false, isCoroutine := Bool.false : PySem.Scope }, globals := 3, closure := [], defaults := PySem.Value.none, kwdefaults := PySem.Value.none, pyModule := PySem.Value.str (PySem.Str.ofString "snobol.hosts") 453, code := PySem.Value.ref 225 : PySem.FuncData } : PySem.Obj }) [_, _, _, _] (rfl : _ = fB (inAt (stAt 20) 2))
noncomputable def k_227 (P : Params) : Obj := { cls := PySem.Value.type "tuple", data := PySem.Data.seq #[] : PySem.Obj }
noncomputable def k_229 (P : Params) : Obj := { cls := PySem.Value.type "tuple", data := PySem.Data.seq #[PySem.Value.str (PySem.Str.ofString "self") 497] : PySem.Obj }
noncomputable def k_230 (P : Params) : Obj := { cls := PySem.Value.type "tuple", data := PySem.Data.seq #[] : PySem.Obj }
noncomputable def k_232 (P : Params) : Obj := { cls := PySem.Value.type "code", data := PySem.Data.fields #[PySem.Value.str (PySem.Str.ofString "step") 494, PySem.Value.str (PySem.Str.ofString "PlainHost.step") 495, PySem.Value.str (PySem.Str.ofString "/claim/cut.py") 496, PySem.Value.int 107 0, PySem.Value.int 1 0, PySem.Value.int 0 0, PySem.Value.int 0 0, PySem.Value.int 3 0, PySem.Value.ref 227, PySem.Value.bool Bool.true, PySem.Value.int 181 0, PySem.Value.ref 228, PySem.Value.none, PySem.Value.ref 229, PySem.Value.ref 230, PySem.Value.ref 231, PySem.Value.int 498 0, PySem.Value.int 107 0, PySem.Value.str (PySem.Str.ofString "/claim/cut.py") 499] : PySem.Obj }
noncomputable def k_233 (P : Params) : Obj := wb (fun b => { cls := PySem.Value.type "function", data := PySem.Data.func { name := PySem.Str.ofString "step", qualname := PySem.Str.ofString "PlainHost.step", params := { posonlyargs := [], args := [{ arg := PySem.Str.ofString "self", annotation := Option.none, pos := { line := 107, col := 13, endLine := 107, endCol := 17 : PySem.Pos } : PySem.Arg }], vararg := Option.none, kwonlyargs := [], kw_defaults := [], kwarg := Option.none, defaults := [] : PySem.Arguments }, body := PySem.FuncBody.stmts b, scope := { kind := PySem.ScopeKind.function, names := [(PySem.Str.ofString "self", PySem.NameKind.local), (PySem.Str.ofString "SnobolError", PySem.NameKind.globalImplicit)], isGenerator := Bool.false, isCoroutine := Bool.false : PySem.Scope }, globals := 3, closure := [], defaults := PySem.Value.none, kwdefaults := PySem.Value.none, pyModule := PySem.Value.str (PySem.Str.ofString "snobol.hosts") 453, code := PySem.Value.ref 232 : PySem.FuncData } : PySem.Obj }) [_, _] (rfl : _ = fB (inAt (stAt 20) 3))
noncomputable def k_234 (P : Params) : Obj := { cls := PySem.Value.type "tuple", data := PySem.Data.seq #[PySem.Value.str (PySem.Str.ofString "limit") 501, PySem.Value.str (PySem.Str.ofString "log") 502, PySem.Value.str (PySem.Str.ofString "refused") 503, PySem.Value.str (PySem.Str.ofString "steps") 504, PySem.Value.str (PySem.Str.ofString "values") 505, PySem.Value.str (PySem.Str.ofString "width") 506] : PySem.Obj }
noncomputable def k_235 (P : Params) : Obj := { cls := PySem.Value.type "dict", data := PySem.Data.dict #[{ hash := PySem.PyData.keyHash P (PySem.Str.ofString "__module__"), key := PySem.Value.str (PySem.Str.ofString "__module__") 462, val := PySem.Value.str (PySem.Str.ofString "snobol.hosts") 453 : PySem.DictEntry }, { hash := PySem.PyData.keyHash P (PySem.Str.ofString "__firstlineno__"), key := PySem.Value.str (PySem.Str.ofString "__firstlineno__") 466, val := PySem.Value.int 85 465 : PySem.DictEntry }, { hash := PySem.PyData.keyHash P (PySem.Str.ofString "__init__"), key := PySem.Value.str (PySem.Str.ofString "__init__") 476, val := PySem.Value.ref 212 : PySem.DictEntry }, { hash := PySem.PyData.keyHash P (PySem.Str.ofString "value_of"), key := PySem.Value.str (PySem.Str.ofString "value_of") 484, val := PySem.Value.ref 219 : PySem.DictEntry }, { hash := PySem.PyData.keyHash P (PySem.Str.ofString "assign"), key := PySem.Value.str (PySem.Str.ofString "assign") 493, val := PySem.Value.ref 226 : PySem.DictEntry }, { hash := PySem.PyData.keyHash P (PySem.Str.ofString "step"), key := PySem.Value.str (PySem.Str.ofString "step") 500, val := PySem.Value.ref 233 : PySem.DictEntry }, { hash := PySem.PyData.keyHash P (PySem.Str.ofString "__static_attributes__"), key := PySem.Value.str (PySem.Str.ofString "__static_attributes__") 507, val := PySem.Value.ref 234 : PySem.DictEntry }, { hash := PySem.PyData.keyHash P (PySem.Str.ofString "__dict__"), key := PySem.Value.str (PySem.Str.ofString "__dict__") 509, val := PySem.Value.ref 237 : PySem.DictEntry }, { hash := PySem.PyData.keyHash P (PySem.Str.ofString "__weakref__"), key := PySem.Value.str (PySem.Str.ofString "__weakref__") 511, val := PySem.Value.ref 238 : PySem.DictEntry }, { hash := PySem.PyData.keyHash P (PySem.Str.ofString "__doc__"), key := PySem.Value.str (PySem.Str.ofString "__doc__") 512, val := PySem.Value.none : PySem.DictEntry }] 4 : PySem.Obj }
noncomputable def k_236 (P : Params) : Obj := { cls := PySem.Value.type "type", data := PySem.Data.cls { name := PySem.Str.ofString "PlainHost", bases := [PySem.Value.type "object"], mro := [PySem.Value.ref 236, PySem.Value.type "object"], ns := 235, qualname := PySem.Str.ofString "PlainHost" : PySem.ClassData }, slots := #[Option.none, Option.none, Option.some (PySem.Value.str (PySem.Str.ofString "PlainHost") 455), Option.some (PySem.Value.str (PySem.Str.ofString "PlainHost") 463), Option.some (PySem.Value.builtin "object.__new__"), Option.some (PySem.Value.bool Bool.true)] : PySem.Obj }
noncomputable def k_237 (P : Params) : Obj := { cls := PySem.Value.type "getset_descriptor", data := PySem.Data.fields #[PySem.Value.str (PySem.Str.ofString "__dict__") 508, PySem.Value.ref 236, PySem.Value.builtin "function.__dict__", PySem.Value.builtin "function.__dict__#set"] : PySem.Obj }
noncomputable def k_238 (P : Params) : Obj := { cls := PySem.Value.type "getset_descriptor", data := PySem.Data.fields #[PySem.Value.str (PySem.Str.ofString "__weakref__") 510, PySem.Value.ref 236, PySem.Value.builtin "ExceptionGroup.__weakref__", PySem.Value.none] : PySem.Obj }
noncomputable def k_241 (P : Params) : Obj := { cls := PySem.Value.type "tuple", data := PySem.Data.seq #[PySem.Value.str (PySem.Str.ofString "len") 517, PySem.Value.str (PySem.Str.ofString "pos") 518, PySem.Value.str (PySem.Str.ofString "rpos") 519, PySem.Value.str (PySem.Str.ofString "tab") 520, PySem.Value.str (PySem.Str.ofString "rtab") 521] : PySem.Obj }
noncomputable def k_242 (P : Params) : Obj := { cls := PySem.Value.type "tuple", data := PySem.Data.seq #[PySem.Value.str (PySem.Str.ofString "any") 523, PySem.Value.str (PySem.Str.ofString "notany") 524, PySem.Value.str (PySem.Str.ofString "span") 525, PySem.Value.str (PySem.Str.ofString "break") 526] : PySem.Obj }
noncomputable def k_243 (P : Params) : Obj := { cls := PySem.Value.type "tuple", data := PySem.Data.seq #[PySem.Value.int 64 528] : PySem.Obj }
noncomputable def k_244 (P : Params) : Obj := { cls := PySem.Value.type "tuple", data := PySem.Data.seq #[] : PySem.Obj }
noncomputable def k_246 (P : Params) : Obj := { cls := PySem.Value.type "tuple", data := PySem.Data.seq #[PySem.Value.str (PySem.Str.ofString "value") 533, PySem.Value.str (PySem.Str.ofString "kind") 534, PySem.Value.str (PySem.Str.ofString "width") 535, PySem.Value.str (PySem.Str.ofString "count") 536] : PySem.Obj }
noncomputable def k_247 (P : Params) : Obj := { cls := PySem.Value.type "tuple", data := PySem.Data.seq #[] : PySem.Obj }
noncomputable def k_249 (P : Params) : Obj := { cls := PySem.Value.type "code", data := PySem.Data.fields #[PySem.Value.str (PySem.Str.ofString "plain_count") 530, PySem.Value.str (PySem.Str.ofString "plain_count") 531, PySem.Value.str (PySem.Str.ofString "/claim/cut.py") 532, PySem.Value.int 115 0, PySem.Value.int 3 0, PySem.Value.int 0 0, PySem.Value.int 0 0, PySem.Value.int 3 0, PySem.Value.ref 244, PySem.Value.bool Bool.true, PySem.Value.int 181 0, PySem.Value.ref 245, PySem.Value.none, PySem.Value.ref 246, PySem.Value.ref 247, PySem.Value.ref 248, PySem.Value.int 537 0, PySem.Value.int 115 0, PySem.Value.str (PySem.Str.ofString "/claim/cut.py") 538] : PySem.Obj }
noncomputable def k_250 (P : Params) : Obj := wb (fun b => { cls := PySem.Value.type "function", data := PySem.Data.func { name := PySem.Str.ofString "plain_count", qualname := PySem.Str.ofString "plain_count", params := { posonlyargs := [], args := [{ arg := PySem.Str.ofString "value", annotation := Option.none, pos := { line := 115, col := 16, endLine := 115, endCol := 21 : PySem.Pos } : PySem.Arg }, { arg := PySem.Str.ofString "kind", annotation := Option.none, pos := { line := 115, col := 23, endLine := 115, endCol := 27 : PySem.Pos } : PySem.Arg }, { arg := PySem.Str.ofString "width", annotation := Option.none, pos := { line := 115, col := 29, endLine := 115, endCol := 34 : PySem.Pos } : PySem.Arg }], vararg := Option.none, kwonlyargs := [], kw_defaults := [], kwarg := Option.none, defaults := [PySem.Expr.Name (PySem.Str.ofString "WIDTH_OF_COUNT") { line := 115, col := 35, endLine := 115, endCol := 49 : PySem.Pos }] : PySem.Arguments }, body := PySem.FuncBody.stmts b, scope := { kind := PySem.ScopeKind.function, names := [(PySem.Str.ofString "value", PySem.NameKind.local), (PySem.Str.ofString "kind", PySem.NameKind.local), (PySem.Str.ofString "width", PySem.NameKind.local), (PySem.Str.ofString "count", PySem.NameKind.local), (PySem.Str.ofString "to_whole", PySem.NameKind.globalImplicit), (PySem.Str.ofString "SnobolError", PySem.NameKind.globalImplicit)], isGenerator := Bool.false, isCoroutine := Bool.false : PySem.Scope }, globals := 3, closure := [], defaults := PySem.Value.ref 243, kwdefaults := PySem.Value.none, pyModule := PySem.Value.str (PySem.Str.ofString "snobol.nodes") 515, code := PySem.Value.ref 249 : PySem.FuncData } : PySem.Obj }) [_, _, _, _] (rfl : _ = fB (stAt 25))
noncomputable def k_251 (P : Params) : Obj := { cls := PySem.Value.type "tuple", data := PySem.Data.seq #[] : PySem.Obj }
noncomputable def k_253 (P : Params) : Obj := { cls := PySem.Value.type "tuple", data := PySem.Data.seq #[PySem.Value.str (PySem.Str.ofString "value") 543, PySem.Value.str (PySem.Str.ofString "kind") 544, PySem.Value.str (PySem.Str.ofString "text") 545] : PySem.Obj }
noncomputable def k_254 (P : Params) : Obj := { cls := PySem.Value.type "tuple", data := PySem.Data.seq #[] : PySem.Obj }
noncomputable def k_256 (P : Params) : Obj := { cls := PySem.Value.type "code", data := PySem.Data.fields #[PySem.Value.str (PySem.Str.ofString "plain_signs") 540, PySem.Value.str (PySem.Str.ofString "plain_signs") 541, PySem.Value.str (PySem.Str.ofString "/claim/cut.py") 542, PySem.Value.int 122 0, PySem.Value.int 2 0, PySem.Value.int 0 0, PySem.Value.int 0 0, PySem.Value.int 3 0, PySem.Value.ref 251, PySem.Value.bool Bool.true, PySem.Value.int 181 0, PySem.Value.ref 252, PySem.Value.none, PySem.Value.ref 253, PySem.Value.ref 254, PySem.Value.ref 255, PySem.Value.int 546 0, PySem.Value.int 122 0, PySem.Value.str (PySem.Str.ofString "/claim/cut.py") 547] : PySem.Obj }
noncomputable def k_257 (P : Params) : Obj := wb (fun b => { cls := PySem.Value.type "function", data := PySem.Data.func { name := PySem.Str.ofString "plain_signs", qualname := PySem.Str.ofString "plain_signs", params := { posonlyargs := [], args := [{ arg := PySem.Str.ofString "value", annotation := Option.none, pos := { line := 122, col := 16, endLine := 122, endCol := 21 : PySem.Pos } : PySem.Arg }, { arg := PySem.Str.ofString "kind", annotation := Option.none, pos := { line := 122, col := 23, endLine := 122, endCol := 27 : PySem.Pos } : PySem.Arg }], vararg := Option.none, kwonlyargs := [], kw_defaults := [], kwarg := Option.none, defaults := [] : PySem.Arguments }, body := PySem.FuncBody.stmts b, scope := { kind := PySem.ScopeKind.function, names := [(PySem.Str.ofString "value", PySem.NameKind.local), (PySem.Str.ofString "kind", PySem.NameKind.local), (PySem.Str.ofString "text", PySem.NameKind.local), (PySem.Str.ofString "need_text", PySem.NameKind.globalImplicit), (PySem.Str.ofString "SnobolError", PySem.NameKind.globalImplicit)], isGenerator := Bool.false, isCoroutine := Bool.false : PySem.Scope }, globals := 3, closure := [], defaults := PySem.Value.none, kwdefaults := PySem.Value.none, pyModule := PySem.Value.str (PySem.Str.ofString "snobol.nodes") 515, code := PySem.Value.ref 256 : PySem.FuncData } : PySem.Obj }) [_, _, _] (rfl : _ = fB (stAt 26))
noncomputable def k_258 (P : Params) : Obj := { cls := PySem.Value.type "tuple", data := PySem.Data.seq #[] : PySem.Obj }
noncomputable def k_260 (P : Params) : Obj := { cls := PySem.Value.type "tuple", data := PySem.Data.seq #[PySem.Value.str (PySem.Str.ofString "value") 552, PySem.Value.str (PySem.Str.ofString "text") 553] : PySem.Obj }
noncomputable def k_261 (P : Params) : Obj := { cls := PySem.Value.type "tuple", data := PySem.Data.seq #[] : PySem.Obj }
noncomputable def k_263 (P : Params) : Obj := { cls := PySem.Value.type "code", data := PySem.Data.fields #[PySem.Value.str (PySem.Str.ofString "pattern_of") 549, PySem.Value.str (PySem.Str.ofString "pattern_of") 550, PySem.Value.str (PySem.Str.ofString "/claim/cut.py") 551, PySem.Value.int 127 0, PySem.Value.int 1 0, PySem.Value.int 0 0, PySem.Value.int 0 0, PySem.Value.int 3 0, PySem.Value.ref 258, PySem.Value.bool Bool.true, PySem.Value.int 181 0, PySem.Value.ref 259, PySem.Value.none, PySem.Value.ref 260, PySem.Value.ref 261, PySem.Value.ref 262, PySem.Value.int 554 0, PySem.Value.int 127 0, PySem.Value.str (PySem.Str.ofString "/claim/cut.py") 555] : PySem.Obj }
noncomputable def k_264 (P : Params) : Obj := wb (fun b => { cls := PySem.Value.type "function", data := PySem.Data.func { name := PySem.Str.ofString "pattern_of", qualname := PySem.Str.ofString "pattern_of", params := { posonlyargs := [], args := [{ arg := PySem.Str.ofString "value", annotation := Option.none, pos := { line := 127, col := 15, endLine := 127, endCol := 20 : PySem.Pos } : PySem.Arg }], vararg := Option.none, kwonlyargs := [], kw_defaults := [], kwarg := Option.none, defaults := [] : PySem.Arguments }, body := PySem.FuncBody.stmts b, scope := { kind := PySem.ScopeKind.function, names := [(PySem.Str.ofString "value", PySem.NameKind.local), (PySem.Str.ofString "text", PySem.NameKind.local), (PySem.Str.ofString "isinstance", PySem.NameKind.globalImplicit), (PySem.Str.ofString "Pattern", PySem.NameKind.globalImplicit), (PySem.Str.ofString "Delayed", PySem.NameKind.globalImplicit), (PySem.Str.ofString "to_text", PySem.NameKind.globalImplicit), (PySem.Str.ofString "SnobolError", PySem.NameKind.globalImplicit)], isGenerator := Bool.false, isCoroutine := Bool.false : PySem.Scope }, globals := 3, closure := [], defaults := PySem.Value.none, kwdefaults := PySem.Value.none, pyModule := PySem.Value.str (PySem.Str.ofString "snobol.nodes") 515, code := PySem.Value.ref 263 : PySem.FuncData } : PySem.Obj }) [_, _, _, _, _] (rfl : _ = fB (stAt 27))
noncomputable def k_265 (P : Params) : Obj := { cls := PySem.Value.type "tuple", data := PySem.Data.seq #[] : PySem.Obj }
noncomputable def k_267 (P : Params) : Obj := { cls := PySem.Value.type "tuple", data := PySem.Data.seq #[PySem.Value.str (PySem.Str.ofString "told") 560] : PySem.Obj }
noncomputable def k_268 (P : Params) : Obj := { cls := PySem.Value.type "tuple", data := PySem.Data.seq #[] : PySem.Obj }
noncomputable def k_270 (P : Params) : Obj := { cls := PySem.Value.type "code", data := PySem.Data.fields #[PySem.Value.str (PySem.Str.ofString "is_delayed") 557, PySem.Value.str (PySem.Str.ofString "is_delayed") 558, PySem.Value.str (PySem.Str.ofString "/claim/cut.py") 559, PySem.Value.int 136 0, PySem.Value.int 1 0, PySem.Value.int 0 0, PySem.Value.int 0 0, PySem.Value.int 3 0, PySem.Value.ref 265, PySem.Value.bool Bool.true, PySem.Value.int 181 0, PySem.Value.ref 266, PySem.Value.none, PySem.Value.ref 267, PySem.Value.ref 268, PySem.Value.ref 269, PySem.Value.int 561 0, PySem.Value.int 136 0, PySem.Value.str (PySem.Str.ofString "/claim/cut.py") 562] : PySem.Obj }
noncomputable def k_271 (P : Params) : Obj := wb (fun b => { cls := PySem.Value.type "function", data := PySem.Data.func { name := PySem.Str.ofString "is_delayed", qualname := PySem.Str.ofString "is_delayed", params := { posonlyargs := [], args := [{ arg := PySem.Str.ofString "told", annotation := Option.none, pos := { line := 136, col := 15, endLine := 136, endCol := 19 : PySem.Pos } : PySem.Arg }], vararg := Option.none, kwonlyargs := [], kw_defaults := [], kwarg := Option.none, defaults := [] : PySem.Arguments }, body := PySem.FuncBody.stmts b, scope := { kind := PySem.ScopeKind.function, names := [(PySem.Str.ofString "told", PySem.NameKind.local), (PySem.Str.ofString "isinstance", PySem.NameKind.globalImplicit), (PySem.Str.ofString "tuple", PySem.NameKind.globalImplicit)], isGenerator := Bool.false, isCoroutine := Bool.false : PySem.Scope }, globals := 3, closure := [], defaults := PySem.Value.none, kwdefaults := PySem.Value.none, pyModule := PySem.Value.str (PySem.Str.ofString "snobol.nodes") 515, code := PySem.Value.ref 270 : PySem.FuncData } : PySem.Obj }) [_] (rfl : _ = fB (stAt 28))
noncomputable def k_272 (P : Params) : Obj := { cls := PySem.Value.type "tuple", data := PySem.Data.seq #[] : PySem.Obj }
noncomputable def k_274 (P : Params) : Obj := { cls := PySem.Value.type "tuple", data := PySem.Data.seq #[PySem.Value.str (PySem.Str.ofString "node") 567, PySem.Value.str (PySem.Str.ofString "host") 568, PySem.Value.str (PySem.Str.ofString "value") 569] : PySem.Obj }
noncomputable def k_275 (P : Params) : Obj := { cls := PySem.Value.type "tuple", data := PySem.Data.seq #[] : PySem.Obj }
noncomputable def k_277 (P : Params) : Obj := { cls := PySem.Value.type "code", data := PySem.Data.fields #[PySem.Value.str (PySem.Str.ofString "settled") 564, PySem.Value.str (PySem.Str.ofString "settled") 565, PySem.Value.str (PySem.Str.ofString "/claim/cut.py") 566, PySem.Value.int 138 0, PySem.Value.int 2 0, PySem.Value.int 0 0, PySem.Value.int 0 0, PySem.Value.int 3 0, PySem.Value.ref 272, PySem.Value.bool Bool.true, PySem.Value.int 181 0, PySem.Value.ref 273, PySem.Value.none, PySem.Value.ref 274, PySem.Value.ref 275, PySem.Value.ref 276, PySem.Value.int 570 0, PySem.Value.int 138 0, PySem.Value.str (PySem.Str.ofString "/claim/cut.py") 571] : PySem.Obj }
noncomputable def k_278 (P : Params) : Obj := wb (fun b => { cls := PySem.Value.type "function", data := PySem.Data.func { name := PySem.Str.ofString "settled", qualname := PySem.Str.ofString "settled", params := { posonlyargs := [], args := [{ arg := PySem.Str.ofString "node", annotation := Option.none, pos := { line := 138, col := 12, endLine := 138, endCol := 16 : PySem.Pos } : PySem.Arg }, { arg := PySem.Str.ofString "host", annotation := Option.none, pos := { line := 138, col := 18, endLine := 138, endCol := 22 : PySem.Pos } : PySem.Arg }], vararg := Option.none, kwonlyargs := [], kw_defaults := [], kwarg := Option.none, defaults := [] : PySem.Arguments }, body := PySem.FuncBody.stmts b, scope := { kind := PySem.ScopeKind.function, names := [(PySem.Str.ofString "node", PySem.NameKind.local), (PySem.Str.ofString "host", PySem.NameKind.local), (PySem.Str.ofString "value", PySem.NameKind.local), (PySem.Str.ofString "COUNTED", PySem.NameKind.globalImplicit), (PySem.Str.ofString "SIGNED", PySem.NameKind.globalImplicit), (PySem.Str.ofString "is_delayed", PySem.NameKind.globalImplicit), (PySem.Str.ofString "is_fail", PySem.NameKind.globalImplicit), (PySem.Str.ofString "plain_count", PySem.NameKind.globalImplicit), (PySem.Str.ofString "plain_signs", PySem.NameKind.globalImplicit)], isGenerator := Bool.false, isCoroutine := Bool.false : PySem.Scope }, globals := 3, closure := [], defaults := PySem.Value.none, kwdefaults := PySem.Value.none, pyModule := PySem.Value.str (PySem.Str.ofString "snobol.nodes") 515, code := PySem.Value.ref 277 : PySem.FuncData } : PySem.Obj }) [_, _, _, _, _] (rfl : _ = fB (stAt 29))
noncomputable def k_279 (P : Params) : Obj := { cls := PySem.Value.type "tuple", data := PySem.Data.seq #[] : PySem.Obj }
noncomputable def k_281 (P : Params) : Obj := { cls := PySem.Value.type "tuple", data := PySem.Data.seq #[PySem.Value.str (PySem.Str.ofString "subject") 582, PySem.Value.str (PySem.Str.ofString "at") 583, PySem.Value.str (PySem.Str.ofString "text") 584, PySem.Value.str (PySem.Str.ofString "end") 585] : PySem.Obj }
noncomputable def k_282 (P : Params) : Obj := { cls := PySem.Value.type "tuple", data := PySem.Data.seq #[] : PySem.Obj }
noncomputable def k_284 (P : Params) : Obj := { cls := PySem.Value.type "code", data := PySem.Data.fields #[PySem.Value.str (PySem.Str.ofString "chars_end") 579, PySem.Value.str (PySem.Str.ofString "chars_end") 580, PySem.Value.str (PySem.Str.ofString "/claim/cut.py") 581, PySem.Value.int 150 0, PySem.Value.int 3 0, PySem.Value.int 0 0, PySem.Value.int 0 0, PySem.Value.int 3 0, PySem.Value.ref 279, PySem.Value.bool Bool.true, PySem.Value.int 181 0, PySem.Value.ref 280, PySem.Value.none, PySem.Value.ref 281, PySem.Value.ref 282, PySem.Value.ref 283, PySem.Value.int 586 0, PySem.Value.int 150 0, PySem.Value.str (PySem.Str.ofString "/claim/cut.py") 587] : PySem.Obj }
noncomputable def k_285 (P : Params) : Obj := wb (fun b => { cls := PySem.Value.type "function", data := PySem.Data.func { name := PySem.Str.ofString "chars_end", qualname := PySem.Str.ofString "chars_end", params := { posonlyargs := [], args := [{ arg := PySem.Str.ofString "subject", annotation := Option.none, pos := { line := 150, col := 14, endLine := 150, endCol := 21 : PySem.Pos } : PySem.Arg }, { arg := PySem.Str.ofString "at", annotation := Option.none, pos := { line := 150, col := 23, endLine := 150, endCol := 25 : PySem.Pos } : PySem.Arg }, { arg := PySem.Str.ofString "text", annotation := Option.none, pos := { line := 150, col := 27, endLine := 150, endCol := 31 : PySem.Pos } : PySem.Arg }], vararg := Option.none, kwonlyargs := [], kw_defaults := [], kwarg := Option.none, defaults := [] : PySem.Arguments }, body := PySem.FuncBody.stmts b, scope := { kind := PySem.ScopeKind.function, names := [(PySem.Str.ofString "subject", PySem.NameKind.local), (PySem.Str.ofString "at", PySem.NameKind.local), (PySem.Str.ofString "text", PySem.NameKind.local), (PySem.Str.ofString "end", PySem.NameKind.local), (PySem.Str.ofString "len", PySem.NameKind.globalImplicit)], isGenerator := Bool.false, isCoroutine := Bool.false : PySem.Scope }, globals := 3, closure := [], defaults := PySem.Value.none, kwdefaults := PySem.Value.none, pyModule := PySem.Value.str (PySem.Str.ofString "snobol.primitives") 573, code := PySem.Value.ref 284 : PySem.FuncData } : PySem.Obj }) [_, _] (rfl : _ = fB (stAt 33))
noncomputable def k_286 (P : Params) : Obj := { cls := PySem.Value.type "tuple", data := PySem.Data.seq #[] : PySem.Obj }
noncomputable def k_288 (P : Params) : Obj := { cls := PySem.Value.type "tuple", data := PySem.Data.seq #[PySem.Value.str (PySem.Str.ofString "subject") 592, PySem.Value.str (PySem.Str.ofString "at") 593, PySem.Value.str (PySem.Str.ofString "many") 594] : PySem.Obj }
noncomputable def k_289 (P : Params) : Obj := { cls := PySem.Value.type "tuple", data := PySem.Data.seq #[] : PySem.Obj }
noncomputable def k_291 (P : Params) : Obj := { cls := PySem.Value.type "code", data := PySem.Data.fields #[PySem.Value.str (PySem.Str.ofString "len_end") 589, PySem.Value.str (PySem.Str.ofString "len_end") 590, PySem.Value.str (PySem.Str.ofString "/claim/cut.py") 591, PySem.Value.int 153 0, PySem.Value.int 3 0, PySem.Value.int 0 0, PySem.Value.int 0 0, PySem.Value.int 3 0, PySem.Value.ref 286, PySem.Value.bool Bool.true, PySem.Value.int 181 0, PySem.Value.ref 287, PySem.Value.none, PySem.Value.ref 288, PySem.Value.ref 289, PySem.Value.ref 290, PySem.Value.int 595 0, PySem.Value.int 153 0, PySem.Value.str (PySem.Str.ofString "/claim/cut.py") 596] : PySem.Obj }
noncomputable def k_292 (P : Params) : Obj := wb (fun b => { cls := PySem.Value.type "function", data := PySem.Data.func { name := PySem.Str.ofString "len_end", qualname := PySem.Str.ofString "len_end", params := { posonlyargs := [], args := [{ arg := PySem.Str.ofString "subject", annotation := Option.none, pos := { line := 153, col := 12, endLine := 153, endCol := 19 : PySem.Pos } : PySem.Arg }, { arg := PySem.Str.ofString "at", annotation := Option.none, pos := { line := 153, col := 21, endLine := 153, endCol := 23 : PySem.Pos } : PySem.Arg }, { arg := PySem.Str.ofString "many", annotation := Option.none, pos := { line := 153, col := 25, endLine := 153, endCol := 29 : PySem.Pos } : PySem.Arg }], vararg := Option.none, kwonlyargs := [], kw_defaults := [], kwarg := Option.none, defaults := [] : PySem.Arguments }, body := PySem.FuncBody.stmts b, scope := { kind := PySem.ScopeKind.function, names := [(PySem.Str.ofString "subject", PySem.NameKind.local), (PySem.Str.ofString "at", PySem.NameKind.local), (PySem.Str.ofString "many", PySem.NameKind.local), (PySem.Str.ofString "len", PySem.NameKind.globalImplicit)], isGenerator := Bool.false, isCoroutine := Bool.false : PySem.Scope }, globals := 3, closure := [], defaults := PySem.Value.none, kwdefaults := PySem.Value.none, pyModule := PySem.Value.str (PySem.Str.ofString "snobol.primitives") 573, code := PySem.Value.ref 291 : PySem.FuncData } : PySem.Obj }) [_] (rfl : _ = fB (stAt 34))
noncomputable def k_293 (P : Params) : Obj := { cls := PySem.Value.type "tuple", data := PySem.Data.seq #[] : PySem.Obj }
noncomputable def k_295 (P : Params) : Obj := { cls := PySem.Value.type "tuple", data := PySem.Data.seq #[PySem.Value.str (PySem.Str.ofString "at") 601, PySem.Value.str (PySem.Str.ofString "place") 602] : PySem.Obj }
noncomputable def k_296 (P : Params) : Obj := { cls := PySem.Value.type "tuple", data := PySem.Data.seq #[] : PySem.Obj }
noncomputable def k_298 (P : Params) : Obj := { cls := PySem.Value.type "code", data := PySem.Data.fields #[PySem.Value.str (PySem.Str.ofString "pos_end") 598, PySem.Value.str (PySem.Str.ofString "pos_end") 599, PySem.Value.str (PySem.Str.ofString "/claim/cut.py") 600, PySem.Value.int 155 0, PySem.Value.int 2 0, PySem.Value.int 0 0, PySem.Value.int 0 0, PySem.Value.int 3 0, PySem.Value.ref 293, PySem.Value.bool Bool.true, PySem.Value.int 181 0, PySem.Value.ref 294, PySem.Value.none, PySem.Value.ref 295, PySem.Value.ref 296, PySem.Value.ref 297, PySem.Value.int 603 0, PySem.Value.int 155 0, PySem.Value.str (PySem.Str.ofString "/claim/cut.py") 604] : PySem.Obj }
noncomputable def k_299 (P : Params) : Obj := wb (fun b => { cls := PySem.Value.type "function", data := PySem.Data.func { name := PySem.Str.ofString "pos_end", qualname := PySem.Str.ofString "pos_end", params := { posonlyargs := [], args := [{ arg := PySem.Str.ofString "at", annotation := Option.none, pos := { line := 155, col := 12, endLine := 155, endCol := 14 : PySem.Pos } : PySem.Arg }, { arg := PySem.Str.ofString "place", annotation := Option.none, pos := { line := 155, col := 16, endLine := 155, endCol := 21 : PySem.Pos } : PySem.Arg }], vararg := Option.none, kwonlyargs := [], kw_defaults := [], kwarg := Option.none, defaults := [] : PySem.Arguments }, body := PySem.FuncBody.stmts b, scope := { kind := PySem.ScopeKind.function, names := [(PySem.Str.ofString "at", PySem.NameKind.local), (PySem.Str.ofString "place", PySem.NameKind.local)], isGenerator := Bool.false, isCoroutine := Bool.false : PySem.Scope }, globals := 3, closure := [], defaults := PySem.Value.none, kwdefaults := PySem.Value.none, pyModule := PySem.Value.str (PySem.Str.ofString "snobol.primitives") 573, code := PySem.Value.ref 298 : PySem.FuncData } : PySem.Obj }) [_] (rfl : _ = fB (stAt 35))
noncomputable def k_300 (P : Params) : Obj := { cls := PySem.Value.type "tuple", data := PySem.Data.seq #[] : PySem.Obj }
noncomputable def k_302 (P : Params) : Obj := { cls := PySem.Value.type "tuple", data := PySem.Data.seq #[PySem.Value.str (PySem.Str.ofString "subject") 609, PySem.Value.str (PySem.Str.ofString "at") 610, PySem.Value.str (PySem.Str.ofString "place") 611] : PySem.Obj }
noncomputable def k_303 (P : Params) : Obj := { cls := PySem.Value.type "tuple", data := PySem.Data.seq #[] : PySem.Obj }
noncomputable def k_305 (P : Params) : Obj := { cls := PySem.Value.type "code", data := PySem.Data.fields #[PySem.Value.str (PySem.Str.ofString "rpos_end") 606, PySem.Value.str (PySem.Str.ofString "rpos_end") 607, PySem.Value.str (PySem.Str.ofString "/claim/cut.py") 608, PySem.Value.int 157 0, PySem.Value.int 3 0, PySem.Value.int 0 0, PySem.Value.int 0 0, PySem.Value.int 3 0, PySem.Value.ref 300, PySem.Value.bool Bool.true, PySem.Value.int 181 0, PySem.Value.ref 301, PySem.Value.none, PySem.Value.ref 302, PySem.Value.ref 303, PySem.Value.ref 304, PySem.Value.int 612 0, PySem.Value.int 157 0, PySem.Value.str (PySem.Str.ofString "/claim/cut.py") 613] : PySem.Obj }
noncomputable def k_306 (P : Params) : Obj := wb (fun b => { cls := PySem.Value.type "function", data := PySem.Data.func { name := PySem.Str.ofString "rpos_end", qualname := PySem.Str.ofString "rpos_end", params := { posonlyargs := [], args := [{ arg := PySem.Str.ofString "subject", annotation := Option.none, pos := { line := 157, col := 13, endLine := 157, endCol := 20 : PySem.Pos } : PySem.Arg }, { arg := PySem.Str.ofString "at", annotation := Option.none, pos := { line := 157, col := 22, endLine := 157, endCol := 24 : PySem.Pos } : PySem.Arg }, { arg := PySem.Str.ofString "place", annotation := Option.none, pos := { line := 157, col := 26, endLine := 157, endCol := 31 : PySem.Pos } : PySem.Arg }], vararg := Option.none, kwonlyargs := [], kw_defaults := [], kwarg := Option.none, defaults := [] : PySem.Arguments }, body := PySem.FuncBody.stmts b, scope := { kind := PySem.ScopeKind.function, names := [(PySem.Str.ofString "subject", PySem.NameKind.local), (PySem.Str.ofString "at", PySem.NameKind.local), (PySem.Str.ofString "place", PySem.NameKind.local), (PySem.Str.ofString "len", PySem.NameKind.globalImplicit)], isGenerator := Bool.false, isCoroutine := Bool.false : PySem.Scope }, globals := 3, closure := [], defaults := PySem.Value.none, kwdefaults := PySem.Value.none, pyModule := PySem.Value.str (PySem.Str.ofString "snobol.primitives") 573, code := PySem.Value.ref 305 : PySem.FuncData } : PySem.Obj }) [_] (rfl : _ = fB (stAt 36))
noncomputable def k_307 (P : Params) : Obj := { cls := PySem.Value.type "tuple", data := PySem.Data.seq #[] : PySem.Obj }
noncomputable def k_309 (P : Params) : Obj := { cls := PySem.Value.type "tuple", data := PySem.Data.seq #[PySem.Value.str (PySem.Str.ofString "subject") 618, PySem.Value.str (PySem.Str.ofString "at") 619, PySem.Value.str (PySem.Str.ofString "place") 620] : PySem.Obj }
noncomputable def k_310 (P : Params) : Obj := { cls := PySem.Value.type "tuple", data := PySem.Data.seq #[] : PySem.Obj }
noncomputable def k_312 (P : Params) : Obj := { cls := PySem.Value.type "code", data := PySem.Data.fields #[PySem.Value.str (PySem.Str.ofString "tab_end") 615, PySem.Value.str (PySem.Str.ofString "tab_end") 616, PySem.Value.str (PySem.Str.ofString "/claim/cut.py") 617, PySem.Value.int 159 0, PySem.Value.int 3 0, PySem.Value.int 0 0, PySem.Value.int 0 0, PySem.Value.int 3 0, PySem.Value.ref 307, PySem.Value.bool Bool.true, PySem.Value.int 181 0, PySem.Value.ref 308, PySem.Value.none, PySem.Value.ref 309, PySem.Value.ref 310, PySem.Value.ref 311, PySem.Value.int 621 0, PySem.Value.int 159 0, PySem.Value.str (PySem.Str.ofString "/claim/cut.py") 622] : PySem.Obj }
noncomputable def k_313 (P : Params) : Obj := wb (fun b => { cls := PySem.Value.type "function", data := PySem.Data.func { name := PySem.Str.ofString "tab_end", qualname := PySem.Str.ofString "tab_end", params := { posonlyargs := [], args := [{ arg := PySem.Str.ofString "subject", annotation := Option.none, pos := { line := 159, col := 12, endLine := 159, endCol := 19 : PySem.Pos } : PySem.Arg }, { arg := PySem.Str.ofString "at", annotation := Option.none, pos := { line := 159, col := 21, endLine := 159, endCol := 23 : PySem.Pos } : PySem.Arg }, { arg := PySem.Str.ofString "place", annotation := Option.none, pos := { line := 159, col := 25, endLine := 159, endCol := 30 : PySem.Pos } : PySem.Arg }], vararg := Option.none, kwonlyargs := [], kw_defaults := [], kwarg := Option.none, defaults := [] : PySem.Arguments }, body := PySem.FuncBody.stmts b, scope := { kind := PySem.ScopeKind.function, names := [(PySem.Str.ofString "subject", PySem.NameKind.local), (PySem.Str.ofString "at", PySem.NameKind.local), (PySem.Str.ofString "place", PySem.NameKind.local), (PySem.Str.ofString "len", PySem.NameKind.globalImplicit)], isGenerator := Bool.false, isCoroutine := Bool.false : PySem.Scope }, globals := 3, closure := [], defaults := PySem.Value.none, kwdefaults := PySem.Value.none, pyModule := PySem.Value.str (PySem.Str.ofString "snobol.primitives") 573, code := PySem.Value.ref 312 : PySem.FuncData } : PySem.Obj }) [_] (rfl : _ = fB (stAt 37))
noncomputable def k_314 (P : Params) : Obj := { cls := PySem.Value.type "tuple", data := PySem.Data.seq #[] : PySem.Obj }
noncomputable def k_316 (P : Params) : Obj := { cls := PySem.Value.type "tuple", data := PySem.Data.seq #[PySem.Value.str (PySem.Str.ofString "subject") 627, PySem.Value.str (PySem.Str.ofString "at") 628, PySem.Value.str (PySem.Str.ofString "place") 629, PySem.Value.str (PySem.Str.ofString "goal") 630] : PySem.Obj }
noncomputable def k_317 (P : Params) : Obj := { cls := PySem.Value.type "tuple", data := PySem.Data.seq #[] : PySem.Obj }
noncomputable def k_319 (P : Params) : Obj := { cls := PySem.Value.type "code", data := PySem.Data.fields #[PySem.Value.str (PySem.Str.ofString "rtab_end") 624, PySem.Value.str (PySem.Str.ofString "rtab_end") 625, PySem.Value.str (PySem.Str.ofString "/claim/cut.py") 626, PySem.Value.int 161 0, PySem.Value.int 3 0, PySem.Value.int 0 0, PySem.Value.int 0 0, PySem.Value.int 3 0, PySem.Value.ref 314, PySem.Value.bool Bool.true, PySem.Value.int 181 0, PySem.Value.ref 315, PySem.Value.none, PySem.Value.ref 316, PySem.Value.ref 317, PySem.Value.ref 318, PySem.Value.int 631 0, PySem.Value.int 161 0, PySem.Value.str (PySem.Str.ofString "/claim/cut.py") 632] : PySem.Obj }
noncomputable def k_320 (P : Params) : Obj := wb (fun b => { cls := PySem.Value.type "function", data := PySem.Data.func { name := PySem.Str.ofString "rtab_end", qualname := PySem.Str.ofString "rtab_end", params := { posonlyargs := [], args := [{ arg := PySem.Str.ofString "subject", annotation := Option.none, pos := { line := 161, col := 13, endLine := 161, endCol := 20 : PySem.Pos } : PySem.Arg }, { arg := PySem.Str.ofString "at", annotation := Option.none, pos := { line := 161, col := 22, endLine := 161, endCol := 24 : PySem.Pos } : PySem.Arg }, { arg := PySem.Str.ofString "place", annotation := Option.none, pos := { line := 161, col := 26, endLine := 161, endCol := 31 : PySem.Pos } : PySem.Arg }], vararg := Option.none, kwonlyargs := [], kw_defaults := [], kwarg := Option.none, defaults := [] : PySem.Arguments }, body := PySem.FuncBody.stmts b, scope := { kind := PySem.ScopeKind.function, names := [(PySem.Str.ofString "subject", PySem.NameKind.local), (PySem.Str.ofString "at", PySem.NameKind.local), (PySem.Str.ofString "place", PySem.NameKind.local), (PySem.Str.ofString "goal", PySem.NameKind.local), (PySem.Str.ofString "len", PySem.NameKind.globalImplicit)], isGenerator := Bool.false, isCoroutine := Bool.false : PySem.Scope }, globals := 3, closure := [], defaults := PySem.Value.none, kwdefaults := PySem.Value.none, pyModule := PySem.Value.str (PySem.Str.ofString "snobol.primitives") 573, code := PySem.Value.ref 319 : PySem.FuncData } : PySem.Obj }) [_, _] (rfl : _ = fB (stAt 38))
noncomputable def k_321 (P : Params) : Obj := { cls := PySem.Value.type "tuple", data := PySem.Data.seq #[] : PySem.Obj }
noncomputable def k_323 (P : Params) : Obj := { cls := PySem.Value.type "tuple", data := PySem.Data.seq #[PySem.Value.str (PySem.Str.ofString "subject") 637] : PySem.Obj }
noncomputable def k_324 (P : Params) : Obj := { cls := PySem.Value.type "tuple", data := PySem.Data.seq #[] : PySem.Obj }
noncomputable def k_326 (P : Params) : Obj := { cls := PySem.Value.type "code", data := PySem.Data.fields #[PySem.Value.str (PySem.Str.ofString "rem_end") 634, PySem.Value.str (PySem.Str.ofString "rem_end") 635, PySem.Value.str (PySem.Str.ofString "/claim/cut.py") 636, PySem.Value.int 164 0, PySem.Value.int 1 0, PySem.Value.int 0 0, PySem.Value.int 0 0, PySem.Value.int 3 0, PySem.Value.ref 321, PySem.Value.bool Bool.true, PySem.Value.int 181 0, PySem.Value.ref 322, PySem.Value.none, PySem.Value.ref 323, PySem.Value.ref 324, PySem.Value.ref 325, PySem.Value.int 638 0, PySem.Value.int 164 0, PySem.Value.str (PySem.Str.ofString "/claim/cut.py") 639] : PySem.Obj }
noncomputable def k_327 (P : Params) : Obj := wb (fun b => { cls := PySem.Value.type "function", data := PySem.Data.func { name := PySem.Str.ofString "rem_end", qualname := PySem.Str.ofString "rem_end", params := { posonlyargs := [], args := [{ arg := PySem.Str.ofString "subject", annotation := Option.none, pos := { line := 164, col := 12, endLine := 164, endCol := 19 : PySem.Pos } : PySem.Arg }], vararg := Option.none, kwonlyargs := [], kw_defaults := [], kwarg := Option.none, defaults := [] : PySem.Arguments }, body := PySem.FuncBody.stmts b, scope := { kind := PySem.ScopeKind.function, names := [(PySem.Str.ofString "subject", PySem.NameKind.local), (PySem.Str.ofString "len", PySem.NameKind.globalImplicit)], isGenerator := Bool.false, isCoroutine := Bool.false : PySem.Scope }, globals := 3, closure := [], defaults := PySem.Value.none, kwdefaults := PySem.Value.none, pyModule := PySem.Value.str (PySem.Str.ofString "snobol.primitives") 573, code := PySem.Value.ref 326 : PySem.FuncData } : PySem.Obj }) [_] (rfl : _ = fB (stAt 39))
noncomputable def k_328 (P : Params) : Obj := { cls := PySem.Value.type "tuple", data := PySem.Data.seq #[] : PySem.Obj }
noncomputable def k_330 (P : Params) : Obj := { cls := PySem.Value.type "tuple", data := PySem.Data.seq #[PySem.Value.str (PySem.Str.ofString "subject") 644, PySem.Value.str (PySem.Str.ofString "at") 645, PySem.Value.str (PySem.Str.ofString "signs") 646] : PySem.Obj }
noncomputable def k_331 (P : Params) : Obj := { cls := PySem.Value.type "tuple", data := PySem.Data.seq #[] : PySem.Obj }
noncomputable def k_333 (P : Params) : Obj := { cls := PySem.Value.type "code", data := PySem.Data.fields #[PySem.Value.str (PySem.Str.ofString "any_at") 641, PySem.Value.str (PySem.Str.ofString "any_at") 642, PySem.Value.str (PySem.Str.ofString "/claim/cut.py") 643, PySem.Value.int 166 0, PySem.Value.int 3 0, PySem.Value.int 0 0, PySem.Value.int 0 0, PySem.Value.int 3 0, PySem.Value.ref 328, PySem.Value.bool Bool.true, PySem.Value.int 181 0, PySem.Value.ref 329, PySem.Value.none, PySem.Value.ref 330, PySem.Value.ref 331, PySem.Value.ref 332, PySem.Value.int 647 0, PySem.Value.int 166 0, PySem.Value.str (PySem.Str.ofString "/claim/cut.py") 648] : PySem.Obj }
noncomputable def k_334 (P : Params) : Obj := wb (fun b => { cls := PySem.Value.type "function", data := PySem.Data.func { name := PySem.Str.ofString "any_at", qualname := PySem.Str.ofString "any_at", params := { posonlyargs := [], args := [{ arg := PySem.Str.ofString "subject", annotation := Option.none, pos := { line := 166, col := 11, endLine := 166, endCol := 18 : PySem.Pos } : PySem.Arg }, { arg := PySem.Str.ofString "at", annotation := Option.none, pos := { line := 166, col := 20, endLine := 166, endCol := 22 : PySem.Pos } : PySem.Arg }, { arg := PySem.Str.ofString "signs", annotation := Option.none, pos := { line := 166, col := 24, endLine := 166, endCol := 29 : PySem.Pos } : PySem.Arg }], vararg := Option.none, kwonlyargs := [], kw_defaults := [], kwarg := Option.none, defaults := [] : PySem.Arguments }, body := PySem.FuncBody.stmts b, scope := { kind := PySem.ScopeKind.function, names := [(PySem.Str.ofString "subject", PySem.NameKind.local), (PySem.Str.ofString "at", PySem.NameKind.local), (PySem.Str.ofString "signs", PySem.NameKind.local), (PySem.Str.ofString "len", PySem.NameKind.globalImplicit)], isGenerator := Bool.false, isCoroutine := Bool.false : PySem.Scope }, globals := 3, closure := [], defaults := PySem.Value.none, kwdefaults := PySem.Value.none, pyModule := PySem.Value.str (PySem.Str.ofString "snobol.primitives") 573, code := PySem.Value.ref 333 : PySem.FuncData } : PySem.Obj }) [_] (rfl : _ = fB (stAt 40))
noncomputable def k_335 (P : Params) : Obj := { cls := PySem.Value.type "tuple", data := PySem.Data.seq #[] : PySem.Obj }
noncomputable def k_337 (P : Params) : Obj := { cls := PySem.Value.type "tuple", data := PySem.Data.seq #[PySem.Value.str (PySem.Str.ofString "subject") 653, PySem.Value.str (PySem.Str.ofString "at") 654, PySem.Value.str (PySem.Str.ofString "signs") 655] : PySem.Obj }
noncomputable def k_338 (P : Params) : Obj := { cls := PySem.Value.type "tuple", data := PySem.Data.seq #[] : PySem.Obj }
noncomputable def k_340 (P : Params) : Obj := { cls := PySem.Value.type "code", data := PySem.Data.fields #[PySem.Value.str (PySem.Str.ofString "notany_at") 650, PySem.Value.str (PySem.Str.ofString "notany_at") 651, PySem.Value.str (PySem.Str.ofString "/claim/cut.py") 652, PySem.Value.int 168 0, PySem.Value.int 3 0, PySem.Value.int 0 0, PySem.Value.int 0 0, PySem.Value.int 3 0, PySem.Value.ref 335, PySem.Value.bool Bool.true, PySem.Value.int 181 0, PySem.Value.ref 336, PySem.Value.none, PySem.Value.ref 337, PySem.Value.ref 338, PySem.Value.ref 339, PySem.Value.int 656 0, PySem.Value.int 168 0, PySem.Value.str (PySem.Str.ofString "/claim/cut.py") 657] : PySem.Obj }
noncomputable def k_341 (P : Params) : Obj := wb (fun b => { cls := PySem.Value.type "function", data := PySem.Data.func { name := PySem.Str.ofString "notany_at", qualname := PySem.Str.ofString "notany_at", params := { posonlyargs := [], args := [{ arg := PySem.Str.ofString "subject", annotation := Option.none, pos := { line := 168, col := 14, endLine := 168, endCol := 21 : PySem.Pos } : PySem.Arg }, { arg := PySem.Str.ofString "at", annotation := Option.none, pos := { line := 168, col := 23, endLine := 168, endCol := 25 : PySem.Pos } : PySem.Arg }, { arg := PySem.Str.ofString "signs", annotation := Option.none, pos := { line := 168, col := 27, endLine := 168, endCol := 32 : PySem.Pos } : PySem.Arg }], vararg := Option.none, kwonlyargs := [], kw_defaults := [], kwarg := Option.none, defaults := [] : PySem.Arguments }, body := PySem.FuncBody.stmts b, scope := { kind := PySem.ScopeKind.function, names := [(PySem.Str.ofString "subject", PySem.NameKind.local), (PySem.Str.ofString "at", PySem.NameKind.local), (PySem.Str.ofString "signs", PySem.NameKind.local), (PySem.Str.ofString "len", PySem.NameKind.globalImplicit)], isGenerator := Bool.false, isCoroutine := Bool.false : PySem.Scope }, globals := 3, closure := [], defaults := PySem.Value.none, kwdefaults := PySem.Value.none, pyModule := PySem.Value.str (PySem.Str.ofString "snobol.primitives") 573, code := PySem.Value.ref 340 : PySem.FuncData } : PySem.Obj }) [_] (rfl : _ = fB (stAt 41))
noncomputable def k_342 (P : Params) : Obj := { cls := PySem.Value.type "tuple", data := PySem.Data.seq #[] : PySem.Obj }
noncomputable def k_344 (P : Params) : Obj := { cls := PySem.Value.type "tuple", data := PySem.Data.seq #[PySem.Value.str (PySem.Str.ofString "subject") 662, PySem.Value.str (PySem.Str.ofString "at") 663, PySem.Value.str (PySem.Str.ofString "signs") 664, PySem.Value.str (PySem.Str.ofString "is_in") 665] : PySem.Obj }
noncomputable def k_345 (P : Params) : Obj := { cls := PySem.Value.type "tuple", data := PySem.Data.seq #[] : PySem.Obj }
noncomputable def k_347 (P : Params) : Obj := { cls := PySem.Value.type "code", data := PySem.Data.fields #[PySem.Value.str (PySem.Str.ofString "run_end") 659, PySem.Value.str (PySem.Str.ofString "run_end") 660, PySem.Value.str (PySem.Str.ofString "/claim/cut.py") 661, PySem.Value.int 170 0, PySem.Value.int 4 0, PySem.Value.int 0 0, PySem.Value.int 0 0, PySem.Value.int 3 0, PySem.Value.ref 342, PySem.Value.bool Bool.true, PySem.Value.int 181 0, PySem.Value.ref 343, PySem.Value.none, PySem.Value.ref 344, PySem.Value.ref 345, PySem.Value.ref 346, PySem.Value.int 666 0, PySem.Value.int 170 0, PySem.Value.str (PySem.Str.ofString "/claim/cut.py") 667] : PySem.Obj }
noncomputable def k_348 (P : Params) : Obj := wb (fun b => { cls := PySem.Value.type "function", data := PySem.Data.func { name := PySem.Str.ofString "run_end", qualname := PySem.Str.ofString "run_end", params := { posonlyargs := [], args := [{ arg := PySem.Str.ofString "subject", annotation := Option.none, pos := { line := 170, col := 12, endLine := 170, endCol := 19 : PySem.Pos } : PySem.Arg }, { arg := PySem.Str.ofString "at", annotation := Option.none, pos := { line := 170, col := 21, endLine := 170, endCol := 23 : PySem.Pos } : PySem.Arg }, { arg := PySem.Str.ofString "signs", annotation := Option.none, pos := { line := 170, col := 25, endLine := 170, endCol := 30 : PySem.Pos } : PySem.Arg }, { arg := PySem.Str.ofString "is_in", annotation := Option.none, pos := { line := 170, col := 32, endLine := 170, endCol := 37 : PySem.Pos } : PySem.Arg }], vararg := Option.none, kwonlyargs := [], kw_defaults := [], kwarg := Option.none, defaults := [] : PySem.Arguments }, body := PySem.FuncBody.stmts b, scope := { kind := PySem.ScopeKind.function, names := [(PySem.Str.ofString "subject", PySem.NameKind.local), (PySem.Str.ofString "at", PySem.NameKind.local), (PySem.Str.ofString "signs", PySem.NameKind.local), (PySem.Str.ofString "is_in", PySem.NameKind.local), (PySem.Str.ofString "len", PySem.NameKind.globalImplicit)], isGenerator := Bool.false, isCoroutine := Bool.false : PySem.Scope }, globals := 3, closure := [], defaults := PySem.Value.none, kwdefaults := PySem.Value.none, pyModule := PySem.Value.str (PySem.Str.ofString "snobol.primitives") 573, code := PySem.Value.ref 347 : PySem.FuncData } : PySem.Obj }) [_, _] (rfl : _ = fB (stAt 42))
noncomputable def k_349 (P : Params) : Obj := { cls := PySem.Value.type "tuple", data := PySem.Data.seq #[] : PySem.Obj }
noncomputable def k_351 (P : Params) : Obj := { cls := PySem.Value.type "tuple", data := PySem.Data.seq #[PySem.Value.str (PySem.Str.ofString "subject") 672, PySem.Value.str (PySem.Str.ofString "at") 673, PySem.Value.str (PySem.Str.ofString "signs") 674, PySem.Value.str (PySem.Str.ofString "end") 675] : PySem.Obj }
noncomputable def k_352 (P : Params) : Obj := { cls := PySem.Value.type "tuple", data := PySem.Data.seq #[] : PySem.Obj }
noncomputable def k_354 (P : Params) : Obj := { cls := PySem.Value.type "code", data := PySem.Data.fields #[PySem.Value.str (PySem.Str.ofString "span_end") 669, PySem.Value.str (PySem.Str.ofString "span_end") 670, PySem.Value.str (PySem.Str.ofString "/claim/cut.py") 671, PySem.Value.int 174 0, PySem.Value.int 3 0, PySem.Value.int 0 0, PySem.Value.int 0 0, PySem.Value.int 3 0, PySem.Value.ref 349, PySem.Value.bool Bool.true, PySem.Value.int 181 0, PySem.Value.ref 350, PySem.Value.none, PySem.Value.ref 351, PySem.Value.ref 352, PySem.Value.ref 353, PySem.Value.int 676 0, PySem.Value.int 174 0, PySem.Value.str (PySem.Str.ofString "/claim/cut.py") 677] : PySem.Obj }
noncomputable def k_355 (P : Params) : Obj := wb (fun b => { cls := PySem.Value.type "function", data := PySem.Data.func { name := PySem.Str.ofString "span_end", qualname := PySem.Str.ofString "span_end", params := { posonlyargs := [], args := [{ arg := PySem.Str.ofString "subject", annotation := Option.none, pos := { line := 174, col := 13, endLine := 174, endCol := 20 : PySem.Pos } : PySem.Arg }, { arg := PySem.Str.ofString "at", annotation := Option.none, pos := { line := 174, col := 22, endLine := 174, endCol := 24 : PySem.Pos } : PySem.Arg }, { arg := PySem.Str.ofString "signs", annotation := Option.none, pos := { line := 174, col := 26, endLine := 174, endCol := 31 : PySem.Pos } : PySem.Arg }], vararg := Option.none, kwonlyargs := [], kw_defaults := [], kwarg := Option.none, defaults := [] : PySem.Arguments }, body := PySem.FuncBody.stmts b, scope := { kind := PySem.ScopeKind.function, names := [(PySem.Str.ofString "subject", PySem.NameKind.local), (PySem.Str.ofString "at", PySem.NameKind.local), (PySem.Str.ofString "signs", PySem.NameKind.local), (PySem.Str.ofString "end", PySem.NameKind.local), (PySem.Str.ofString "run_end", PySem.NameKind.globalImplicit)], isGenerator := Bool.false, isCoroutine := Bool.false : PySem.Scope }, globals := 3, closure := [], defaults := PySem.Value.none, kwdefaults := PySem.Value.none, pyModule := PySem.Value.str (PySem.Str.ofString "snobol.primitives") 573, code := PySem.Value.ref 354 : PySem.FuncData } : PySem.Obj }) [_, _] (rfl : _ = fB (stAt 43))
noncomputable def k_356 (P : Params) : Obj := { cls := PySem.Value.type "tuple", data := PySem.Data.seq #[] : PySem.Obj }
noncomputable def k_358 (P : Params) : Obj := { cls := PySem.Value.type "tuple", data := PySem.Data.seq #[PySem.Value.str (PySem.Str.ofString "subject") 682, PySem.Value.str (PySem.Str.ofString "at") 683, PySem.Value.str (PySem.Str.ofString "signs") 684, PySem.Value.str (PySem.Str.ofString "end") 685] : PySem.Obj }
noncomputable def k_359 (P : Params) : Obj := { cls := PySem.Value.type "tuple", data := PySem.Data.seq #[] : PySem.Obj }
noncomputable def k_361 (P : Params) : Obj := { cls := PySem.Value.type "code", data := PySem.Data.fields #[PySem.Value.str (PySem.Str.ofString "break_end") 679, PySem.Value.str (PySem.Str.ofString "break_end") 680, PySem.Value.str (PySem.Str.ofString "/claim/cut.py") 681, PySem.Value.int 177 0, PySem.Value.int 3 0, PySem.Value.int 0 0, PySem.Value.int 0 0, PySem.Value.int 3 0, PySem.Value.ref 356, PySem.Value.bool Bool.true, PySem.Value.int 181 0, PySem.Value.ref 357, PySem.Value.none, PySem.Value.ref 358, PySem.Value.ref 359, PySem.Value.ref 360, PySem.Value.int 686 0, PySem.Value.int 177 0, PySem.Value.str (PySem.Str.ofString "/claim/cut.py") 687] : PySem.Obj }
noncomputable def k_362 (P : Params) : Obj := wb (fun b => { cls := PySem.Value.type "function", data := PySem.Data.func { name := PySem.Str.ofString "break_end", qualname := PySem.Str.ofString "break_end", params := { posonlyargs := [], args := [{ arg := PySem.Str.ofString "subject", annotation := Option.none, pos := { line := 177, col := 14, endLine := 177, endCol := 21 : PySem.Pos } : PySem.Arg }, { arg := PySem.Str.ofString "at", annotation := Option.none, pos := { line := 177, col := 23, endLine := 177, endCol := 25 : PySem.Pos } : PySem.Arg }, { arg := PySem.Str.ofString "signs", annotation := Option.none, pos := { line := 177, col := 27, endLine := 177, endCol := 32 : PySem.Pos } : PySem.Arg }], vararg := Option.none, kwonlyargs := [], kw_defaults := [], kwarg := Option.none, defaults := [] : PySem.Arguments }, body := PySem.FuncBody.stmts b, scope := { kind := PySem.ScopeKind.function, names := [(PySem.Str.ofString "subject", PySem.NameKind.local), (PySem.Str.ofString "at", PySem.NameKind.local), (PySem.Str.ofString "signs", PySem.NameKind.local), (PySem.Str.ofString "end", PySem.NameKind.local), (PySem.Str.ofString "run_end", PySem.NameKind.globalImplicit), (PySem.Str.ofString "len", PySem.NameKind.globalImplicit)], isGenerator := Bool.false, isCoroutine := Bool.false : PySem.Scope }, globals := 3, closure := [], defaults := PySem.Value.none, kwdefaults := PySem.Value.none, pyModule := PySem.Value.str (PySem.Str.ofString "snobol.primitives") 573, code := PySem.Value.ref 361 : PySem.FuncData } : PySem.Obj }) [_, _] (rfl : _ = fB (stAt 44))
noncomputable def k_363 (P : Params) : Obj := { cls := PySem.Value.type "tuple", data := PySem.Data.seq #[] : PySem.Obj }
noncomputable def k_365 (P : Params) : Obj := { cls := PySem.Value.type "tuple", data := PySem.Data.seq #[PySem.Value.str (PySem.Str.ofString "subject") 692, PySem.Value.str (PySem.Str.ofString "at") 693, PySem.Value.str (PySem.Str.ofString "level") 694] : PySem.Obj }
noncomputable def k_366 (P : Params) : Obj := { cls := PySem.Value.type "tuple", data := PySem.Data.seq #[] : PySem.Obj }
noncomputable def k_368 (P : Params) : Obj := { cls := PySem.Value.type "code", data := PySem.Data.fields #[PySem.Value.str (PySem.Str.ofString "bal_end") 689, PySem.Value.str (PySem.Str.ofString "bal_end") 690, PySem.Value.str (PySem.Str.ofString "/claim/cut.py") 691, PySem.Value.int 180 0, PySem.Value.int 2 0, PySem.Value.int 0 0, PySem.Value.int 0 0, PySem.Value.int 3 0, PySem.Value.ref 363, PySem.Value.bool Bool.true, PySem.Value.int 181 0, PySem.Value.ref 364, PySem.Value.none, PySem.Value.ref 365, PySem.Value.ref 366, PySem.Value.ref 367, PySem.Value.int 695 0, PySem.Value.int 180 0, PySem.Value.str (PySem.Str.ofString "/claim/cut.py") 696] : PySem.Obj }
noncomputable def k_369 (P : Params) : Obj := wb (fun b => { cls := PySem.Value.type "function", data := PySem.Data.func { name := PySem.Str.ofString "bal_end", qualname := PySem.Str.ofString "bal_end", params := { posonlyargs := [], args := [{ arg := PySem.Str.ofString "subject", annotation := Option.none, pos := { line := 180, col := 12, endLine := 180, endCol := 19 : PySem.Pos } : PySem.Arg }, { arg := PySem.Str.ofString "at", annotation := Option.none, pos := { line := 180, col := 21, endLine := 180, endCol := 23 : PySem.Pos } : PySem.Arg }], vararg := Option.none, kwonlyargs := [], kw_defaults := [], kwarg := Option.none, defaults := [] : PySem.Arguments }, body := PySem.FuncBody.stmts b, scope := { kind := PySem.ScopeKind.function, names := [(PySem.Str.ofString "subject", PySem.NameKind.local), (PySem.Str.ofString "at", PySem.NameKind.local), (PySem.Str.ofString "level", PySem.NameKind.local), (PySem.Str.ofString "len", PySem.NameKind.globalImplicit), (PySem.Str.ofString "OPENING", PySem.NameKind.globalImplicit), (PySem.Str.ofString "CLOSING", PySem.NameKind.globalImplicit)], isGenerator := Bool.false, isCoroutine := Bool.false : PySem.Scope }, globals := 3, closure := [], defaults := PySem.Value.none, kwdefaults := PySem.Value.none, pyModule := PySem.Value.str (PySem.Str.ofString "snobol.primitives") 573, code := PySem.Value.ref 368 : PySem.FuncData } : PySem.Obj }) [_, _, _] (rfl : _ = fB (stAt 45))
noncomputable def k_370 (P : Params) : Obj := { cls := PySem.Value.type "tuple", data := PySem.Data.seq #[] : PySem.Obj }
noncomputable def k_372 (P : Params) : Obj := { cls := PySem.Value.type "tuple", data := PySem.Data.seq #[PySem.Value.str (PySem.Str.ofString "subject") 701, PySem.Value.str (PySem.Str.ofString "at") 702, PySem.Value.str (PySem.Str.ofString "found") 703, PySem.Value.str (PySem.Str.ofString "end") 704] : PySem.Obj }
noncomputable def k_373 (P : Params) : Obj := { cls := PySem.Value.type "tuple", data := PySem.Data.seq #[] : PySem.Obj }
noncomputable def k_375 (P : Params) : Obj := { cls := PySem.Value.type "code", data := PySem.Data.fields #[PySem.Value.str (PySem.Str.ofString "bal_ends") 698, PySem.Value.str (PySem.Str.ofString "bal_ends") 699, PySem.Value.str (PySem.Str.ofString "/claim/cut.py") 700, PySem.Value.int 193 0, PySem.Value.int 2 0, PySem.Value.int 0 0, PySem.Value.int 0 0, PySem.Value.int 3 0, PySem.Value.ref 370, PySem.Value.bool Bool.true, PySem.Value.int 181 0, PySem.Value.ref 371, PySem.Value.none, PySem.Value.ref 372, PySem.Value.ref 373, PySem.Value.ref 374, PySem.Value.int 705 0, PySem.Value.int 193 0, PySem.Value.str (PySem.Str.ofString "/claim/cut.py") 706] : PySem.Obj }
noncomputable def k_376 (P : Params) : Obj := wb (fun b => { cls := PySem.Value.type "function", data := PySem.Data.func { name := PySem.Str.ofString "bal_ends", qualname := PySem.Str.ofString "bal_ends", params := { posonlyargs := [], args := [{ arg := PySem.Str.ofString "subject", annotation := Option.none, pos := { line := 193, col := 13, endLine := 193, endCol := 20 : PySem.Pos } : PySem.Arg }, { arg := PySem.Str.ofString "at", annotation := Option.none, pos := { line := 193, col := 22, endLine := 193, endCol := 24 : PySem.Pos } : PySem.Arg }], vararg := Option.none, kwonlyargs := [], kw_defaults := [], kwarg := Option.none, defaults := [] : PySem.Arguments }, body := PySem.FuncBody.stmts b, scope := { kind := PySem.ScopeKind.function, names := [(PySem.Str.ofString "subject", PySem.NameKind.local), (PySem.Str.ofString "at", PySem.NameKind.local), (PySem.Str.ofString "found", PySem.NameKind.local), (PySem.Str.ofString "end", PySem.NameKind.local), (PySem.Str.ofString "bal_end", PySem.NameKind.globalImplicit)], isGenerator := Bool.false, isCoroutine := Bool.false : PySem.Scope }, globals := 3, closure := [], defaults := PySem.Value.none, kwdefaults := PySem.Value.none, pyModule := PySem.Value.str (PySem.Str.ofString "snobol.primitives") 573, code := PySem.Value.ref 375 : PySem.FuncData } : PySem.Obj }) [_, _, _] (rfl : _ = fB (stAt 46))
noncomputable def k_377 (P : Params) : Obj := { cls := PySem.Value.type "tuple", data := PySem.Data.seq #[] : PySem.Obj }
noncomputable def k_379 (P : Params) : Obj := { cls := PySem.Value.type "tuple", data := PySem.Data.seq #[PySem.Value.str (PySem.Str.ofString "kind") 711, PySem.Value.str (PySem.Str.ofString "subject") 712, PySem.Value.str (PySem.Str.ofString "at") 713, PySem.Value.str (PySem.Str.ofString "told") 714] : PySem.Obj }
noncomputable def k_380 (P : Params) : Obj := { cls := PySem.Value.type "tuple", data := PySem.Data.seq #[] : PySem.Obj }
noncomputable def k_382 (P : Params) : Obj := { cls := PySem.Value.type "code", data := PySem.Data.fields #[PySem.Value.str (PySem.Str.ofString "one_end") 708, PySem.Value.str (PySem.Str.ofString "one_end") 709, PySem.Value.str (PySem.Str.ofString "/claim/cut.py") 710, PySem.Value.int 199 0, PySem.Value.int 4 0, PySem.Value.int 0 0, PySem.Value.int 0 0, PySem.Value.int 3 0, PySem.Value.ref 377, PySem.Value.bool Bool.true, PySem.Value.int 181 0, PySem.Value.ref 378, PySem.Value.none, PySem.Value.ref 379, PySem.Value.ref 380, PySem.Value.ref 381, PySem.Value.int 715 0, PySem.Value.int 199 0, PySem.Value.str (PySem.Str.ofString "/claim/cut.py") 716] : PySem.Obj }
noncomputable def k_383 (P : Params) : Obj := wb (fun b => { cls := PySem.Value.type "function", data := PySem.Data.func { name := PySem.Str.ofString "one_end", qualname := PySem.Str.ofString "one_end", params := { posonlyargs := [], args := [{ arg := PySem.Str.ofString "kind", annotation := Option.none, pos := { line := 199, col := 12, endLine := 199, endCol := 16 : PySem.Pos } : PySem.Arg }, { arg := PySem.Str.ofString "subject", annotation := Option.none, pos := { line := 199, col := 18, endLine := 199, endCol := 25 : PySem.Pos } : PySem.Arg }, { arg := PySem.Str.ofString "at", annotation := Option.none, pos := { line := 199, col := 27, endLine := 199, endCol := 29 : PySem.Pos } : PySem.Arg }, { arg := PySem.Str.ofString "told", annotation := Option.none, pos := { line := 199, col := 31, endLine := 199, endCol := 35 : PySem.Pos } : PySem.Arg }], vararg := Option.none, kwonlyargs := [], kw_defaults := [], kwarg := Option.none, defaults := [] : PySem.Arguments }, body := PySem.FuncBody.stmts b, scope := { kind := PySem.ScopeKind.function, names := [(PySem.Str.ofString "kind", PySem.NameKind.local), (PySem.Str.ofString "subject", PySem.NameKind.local), (PySem.Str.ofString "at", PySem.NameKind.local), (PySem.Str.ofString "told", PySem.NameKind.local), (PySem.Str.ofString "chars_end", PySem.NameKind.globalImplicit), (PySem.Str.ofString "len_end", PySem.NameKind.globalImplicit), (PySem.Str.ofString "pos_end", PySem.NameKind.globalImplicit), (PySem.Str.ofString "rpos_end", PySem.NameKind.globalImplicit), (PySem.Str.ofString "tab_end", PySem.NameKind.globalImplicit), (PySem.Str.ofString "rtab_end", PySem.NameKind.globalImplicit), (PySem.Str.ofString "any_at", PySem.NameKind.globalImplicit), (PySem.Str.ofString "notany_at", PySem.NameKind.globalImplicit), (PySem.Str.ofString "span_end", PySem.NameKind.globalImplicit), (PySem.Str.ofString "break_end", PySem.NameKind.globalImplicit)], isGenerator := Bool.false, isCoroutine := Bool.false : PySem.Scope }, globals := 3, closure := [], defaults := PySem.Value.none, kwdefaults := PySem.Value.none, pyModule := PySem.Value.str (PySem.Str.ofString "snobol.primitives") 573, code := PySem.Value.ref 382 : PySem.FuncData } : PySem.Obj }) [_, _, _, _, _, _, _, _, _, _] (rfl : _ = fB (stAt 47))
noncomputable def k_384 (P : Params) : Obj := { cls := PySem.Value.type "tuple", data := PySem.Data.seq #[] : PySem.Obj }
noncomputable def k_386 (P : Params) : Obj := { cls := PySem.Value.type "tuple", data := PySem.Data.seq #[PySem.Value.str (PySem.Str.ofString "node") 721, PySem.Value.str (PySem.Str.ofString "subject") 722, PySem.Value.str (PySem.Str.ofString "at") 723] : PySem.Obj }
noncomputable def k_387 (P : Params) : Obj := { cls := PySem.Value.type "tuple", data := PySem.Data.seq #[] : PySem.Obj }
noncomputable def k_389 (P : Params) : Obj := { cls := PySem.Value.type "code", data := PySem.Data.fields #[PySem.Value.str (PySem.Str.ofString "plain_end") 718, PySem.Value.str (PySem.Str.ofString "plain_end") 719, PySem.Value.str (PySem.Str.ofString "/claim/cut.py") 720, PySem.Value.int 219 0, PySem.Value.int 3 0, PySem.Value.int 0 0, PySem.Value.int 0 0, PySem.Value.int 3 0, PySem.Value.ref 384, PySem.Value.bool Bool.true, PySem.Value.int 181 0, PySem.Value.ref 385, PySem.Value.none, PySem.Value.ref 386, PySem.Value.ref 387, PySem.Value.ref 388, PySem.Value.int 724 0, PySem.Value.int 219 0, PySem.Value.str (PySem.Str.ofString "/claim/cut.py") 725] : PySem.Obj }
noncomputable def k_390 (P : Params) : Obj := wb (fun b => { cls := PySem.Value.type "function", data := PySem.Data.func { name := PySem.Str.ofString "plain_end", qualname := PySem.Str.ofString "plain_end", params := { posonlyargs := [], args := [{ arg := PySem.Str.ofString "node", annotation := Option.none, pos := { line := 219, col := 14, endLine := 219, endCol := 18 : PySem.Pos } : PySem.Arg }, { arg := PySem.Str.ofString "subject", annotation := Option.none, pos := { line := 219, col := 20, endLine := 219, endCol := 27 : PySem.Pos } : PySem.Arg }, { arg := PySem.Str.ofString "at", annotation := Option.none, pos := { line := 219, col := 29, endLine := 219, endCol := 31 : PySem.Pos } : PySem.Arg }], vararg := Option.none, kwonlyargs := [], kw_defaults := [], kwarg := Option.none, defaults := [] : PySem.Arguments }, body := PySem.FuncBody.stmts b, scope := { kind := PySem.ScopeKind.function, names := [(PySem.Str.ofString "node", PySem.NameKind.local), (PySem.Str.ofString "subject", PySem.NameKind.local), (PySem.Str.ofString "at", PySem.NameKind.local), (PySem.Str.ofString "rem_end", PySem.NameKind.globalImplicit), (PySem.Str.ofString "one_end", PySem.NameKind.globalImplicit)], isGenerator := Bool.false, isCoroutine := Bool.false : PySem.Scope }, globals := 3, closure := [], defaults := PySem.Value.none, kwdefaults := PySem.Value.none, pyModule := PySem.Value.str (PySem.Str.ofString "snobol.primitives") 573, code := PySem.Value.ref 389 : PySem.FuncData } : PySem.Obj }) [_] (rfl : _ = fB (stAt 48))
noncomputable def k_391 (P : Params) : Obj := { cls := PySem.Value.type "tuple", data := PySem.Data.seq #[] : PySem.Obj }
noncomputable def k_393 (P : Params) : Obj := { cls := PySem.Value.type "tuple", data := PySem.Data.seq #[PySem.Value.str (PySem.Str.ofString "node") 734, PySem.Value.str (PySem.Str.ofString "subject") 735, PySem.Value.str (PySem.Str.ofString "is_anchored") 736, PySem.Value.str (PySem.Str.ofString "host") 737, PySem.Value.str (PySem.Str.ofString "begin") 738, PySem.Value.str (PySem.Str.ofString "found") 739] : PySem.Obj }
noncomputable def k_394 (P : Params) : Obj := { cls := PySem.Value.type "tuple", data := PySem.Data.seq #[] : PySem.Obj }
noncomputable def k_396 (P : Params) : Obj := { cls := PySem.Value.type "code", data := PySem.Data.fields #[PySem.Value.str (PySem.Str.ofString "match_plain") 731, PySem.Value.str (PySem.Str.ofString "match_plain") 732, PySem.Value.str (PySem.Str.ofString "/claim/cut.py") 733, PySem.Value.int 223 0, PySem.Value.int 4 0, PySem.Value.int 0 0, PySem.Value.int 0 0, PySem.Value.int 3 0, PySem.Value.ref 391, PySem.Value.bool Bool.true, PySem.Value.int 181 0, PySem.Value.ref 392, PySem.Value.none, PySem.Value.ref 393, PySem.Value.ref 394, PySem.Value.ref 395, PySem.Value.int 740 0, PySem.Value.int 223 0, PySem.Value.str (PySem.Str.ofString "/claim/cut.py") 741] : PySem.Obj }
noncomputable def k_397 (P : Params) : Obj := wb (fun b => { cls := PySem.Value.type "function", data := PySem.Data.func { name := PySem.Str.ofString "match_plain", qualname := PySem.Str.ofString "match_plain", params := { posonlyargs := [], args := [{ arg := PySem.Str.ofString "node", annotation := Option.none, pos := { line := 223, col := 16, endLine := 223, endCol := 20 : PySem.Pos } : PySem.Arg }, { arg := PySem.Str.ofString "subject", annotation := Option.none, pos := { line := 223, col := 22, endLine := 223, endCol := 29 : PySem.Pos } : PySem.Arg }, { arg := PySem.Str.ofString "is_anchored", annotation := Option.none, pos := { line := 223, col := 31, endLine := 223, endCol := 42 : PySem.Pos } : PySem.Arg }, { arg := PySem.Str.ofString "host", annotation := Option.none, pos := { line := 223, col := 44, endLine := 223, endCol := 48 : PySem.Pos } : PySem.Arg }], vararg := Option.none, kwonlyargs := [], kw_defaults := [], kwarg := Option.none, defaults := [] : PySem.Arguments }, body := PySem.FuncBody.stmts b, scope := { kind := PySem.ScopeKind.function, names := [(PySem.Str.ofString "node", PySem.NameKind.local), (PySem.Str.ofString "subject", PySem.NameKind.local), (PySem.Str.ofString "is_anchored", PySem.NameKind.local), (PySem.Str.ofString "host", PySem.NameKind.local), (PySem.Str.ofString "begin", PySem.NameKind.local), (PySem.Str.ofString "found", PySem.NameKind.local), (PySem.Str.ofString "range", PySem.NameKind.globalImplicit), (PySem.Str.ofString "len", PySem.NameKind.globalImplicit), (PySem.Str.ofString "match_at", PySem.NameKind.globalImplicit), (PySem.Str.ofString "LOST", PySem.NameKind.globalImplicit)], isGenerator := Bool.false, isCoroutine := Bool.false : PySem.Scope }, globals := 3, closure := [], defaults := PySem.Value.none, kwdefaults := PySem.Value.none, pyModule := PySem.Value.str (PySem.Str.ofString "snobol.trial") 727, code := PySem.Value.ref 396 : PySem.FuncData } : PySem.Obj }) [_, _] (rfl : _ = fB (stAt 51))
noncomputable def k_398 (P : Params) : Obj := { cls := PySem.Value.type "tuple", data := PySem.Data.seq #[] : PySem.Obj }
noncomputable def k_400 (P : Params) : Obj := { cls := PySem.Value.type "tuple", data := PySem.Data.seq #[PySem.Value.str (PySem.Str.ofString "node") 746, PySem.Value.str (PySem.Str.ofString "subject") 747, PySem.Value.str (PySem.Str.ofString "begin") 748, PySem.Value.str (PySem.Str.ofString "host") 749, PySem.Value.str (PySem.Str.ofString "found") 750] : PySem.Obj }
noncomputable def k_401 (P : Params) : Obj := { cls := PySem.Value.type "tuple", data := PySem.Data.seq #[] : PySem.Obj }
noncomputable def k_403 (P : Params) : Obj := { cls := PySem.Value.type "code", data := PySem.Data.fields #[PySem.Value.str (PySem.Str.ofString "match_at") 743, PySem.Value.str (PySem.Str.ofString "match_at") 744, PySem.Value.str (PySem.Str.ofString "/claim/cut.py") 745, PySem.Value.int 229 0, PySem.Value.int 4 0, PySem.Value.int 0 0, PySem.Value.int 0 0, PySem.Value.int 3 0, PySem.Value.ref 398, PySem.Value.bool Bool.true, PySem.Value.int 181 0, PySem.Value.ref 399, PySem.Value.none, PySem.Value.ref 400, PySem.Value.ref 401, PySem.Value.ref 402, PySem.Value.int 751 0, PySem.Value.int 229 0, PySem.Value.str (PySem.Str.ofString "/claim/cut.py") 752] : PySem.Obj }
noncomputable def k_404 (P : Params) : Obj := wb (fun b => { cls := PySem.Value.type "function", data := PySem.Data.func { name := PySem.Str.ofString "match_at", qualname := PySem.Str.ofString "match_at", params := { posonlyargs := [], args := [{ arg := PySem.Str.ofString "node", annotation := Option.none, pos := { line := 229, col := 13, endLine := 229, endCol := 17 : PySem.Pos } : PySem.Arg }, { arg := PySem.Str.ofString "subject", annotation := Option.none, pos := { line := 229, col := 19, endLine := 229, endCol := 26 : PySem.Pos } : PySem.Arg }, { arg := PySem.Str.ofString "begin", annotation := Option.none, pos := { line := 229, col := 28, endLine := 229, endCol := 33 : PySem.Pos } : PySem.Arg }, { arg := PySem.Str.ofString "host", annotation := Option.none, pos := { line := 229, col := 35, endLine := 229, endCol := 39 : PySem.Pos } : PySem.Arg }], vararg := Option.none, kwonlyargs := [], kw_defaults := [], kwarg := Option.none, defaults := [] : PySem.Arguments }, body := PySem.FuncBody.stmts b, scope := { kind := PySem.ScopeKind.function, names := [(PySem.Str.ofString "node", PySem.NameKind.local), (PySem.Str.ofString "subject", PySem.NameKind.local), (PySem.Str.ofString "begin", PySem.NameKind.local), (PySem.Str.ofString "host", PySem.NameKind.local), (PySem.Str.ofString "found", PySem.NameKind.local), (PySem.Str.ofString "tried", PySem.NameKind.globalImplicit), (PySem.Str.ofString "LOST", PySem.NameKind.globalImplicit)], isGenerator := Bool.false, isCoroutine := Bool.false : PySem.Scope }, globals := 3, closure := [], defaults := PySem.Value.none, kwdefaults := PySem.Value.none, pyModule := PySem.Value.str (PySem.Str.ofString "snobol.trial") 727, code := PySem.Value.ref 403 : PySem.FuncData } : PySem.Obj }) [_, _] (rfl : _ = fB (stAt 52))
noncomputable def k_405 (P : Params) : Obj := { cls := PySem.Value.type "tuple", data := PySem.Data.seq #[] : PySem.Obj }
noncomputable def k_407 (P : Params) : Obj := { cls := PySem.Value.type "tuple", data := PySem.Data.seq #[PySem.Value.str (PySem.Str.ofString "node") 757, PySem.Value.str (PySem.Str.ofString "subject") 758, PySem.Value.str (PySem.Str.ofString "begin") 759, PySem.Value.str (PySem.Str.ofString "host") 760, PySem.Value.str (PySem.Str.ofString "pile") 761, PySem.Value.str (PySem.Str.ofString "way") 762, PySem.Value.str (PySem.Str.ofString "chain") 763, PySem.Value.str (PySem.Str.ofString "at") 764, PySem.Value.str (PySem.Str.ofString "named") 765] : PySem.Obj }
noncomputable def k_408 (P : Params) : Obj := { cls := PySem.Value.type "tuple", data := PySem.Data.seq #[] : PySem.Obj }
noncomputable def k_410 (P : Params) : Obj := { cls := PySem.Value.type "code", data := PySem.Data.fields #[PySem.Value.str (PySem.Str.ofString "tried") 754, PySem.Value.str (PySem.Str.ofString "tried") 755, PySem.Value.str (PySem.Str.ofString "/claim/cut.py") 756, PySem.Value.int 232 0, PySem.Value.int 4 0, PySem.Value.int 0 0, PySem.Value.int 0 0, PySem.Value.int 3 0, PySem.Value.ref 405, PySem.Value.bool Bool.true, PySem.Value.int 181 0, PySem.Value.ref 406, PySem.Value.none, PySem.Value.ref 407, PySem.Value.ref 408, PySem.Value.ref 409, PySem.Value.int 766 0, PySem.Value.int 232 0, PySem.Value.str (PySem.Str.ofString "/claim/cut.py") 767] : PySem.Obj }
noncomputable def k_411 (P : Params) : Obj := wb (fun b => { cls := PySem.Value.type "function", data := PySem.Data.func { name := PySem.Str.ofString "tried", qualname := PySem.Str.ofString "tried", params := { posonlyargs := [], args := [{ arg := PySem.Str.ofString "node", annotation := Option.none, pos := { line := 232, col := 10, endLine := 232, endCol := 14 : PySem.Pos } : PySem.Arg }, { arg := PySem.Str.ofString "subject", annotation := Option.none, pos := { line := 232, col := 16, endLine := 232, endCol := 23 : PySem.Pos } : PySem.Arg }, { arg := PySem.Str.ofString "begin", annotation := Option.none, pos := { line := 232, col := 25, endLine := 232, endCol := 30 : PySem.Pos } : PySem.Arg }, { arg := PySem.Str.ofString "host", annotation := Option.none, pos := { line := 232, col := 32, endLine := 232, endCol := 36 : PySem.Pos } : PySem.Arg }], vararg := Option.none, kwonlyargs := [], kw_defaults := [], kwarg := Option.none, defaults := [] : PySem.Arguments }, body := PySem.FuncBody.stmts b, scope := { kind := PySem.ScopeKind.function, names := [(PySem.Str.ofString "node", PySem.NameKind.local), (PySem.Str.ofString "subject", PySem.NameKind.local), (PySem.Str.ofString "begin", PySem.NameKind.local), (PySem.Str.ofString "host", PySem.NameKind.local), (PySem.Str.ofString "pile", PySem.NameKind.local), (PySem.Str.ofString "way", PySem.NameKind.local), (PySem.Str.ofString "chain", PySem.NameKind.local), (PySem.Str.ofString "at", PySem.NameKind.local), (PySem.Str.ofString "named", PySem.NameKind.local), (PySem.Str.ofString "len", PySem.NameKind.globalImplicit), (PySem.Str.ofString "LOST", PySem.NameKind.globalImplicit), (PySem.Str.ofString "advanced", PySem.NameKind.globalImplicit), (PySem.Str.ofString "list", PySem.NameKind.globalImplicit)], isGenerator := Bool.false, isCoroutine := Bool.false : PySem.Scope }, globals := 3, closure := [], defaults := PySem.Value.none, kwdefaults := PySem.Value.none, pyModule := PySem.Value.str (PySem.Str.ofString "snobol.trial") 727, code := PySem.Value.ref 410 : PySem.FuncData } : PySem.Obj }) [_, _, _] (rfl : _ = fB (stAt 53))
noncomputable def k_412 (P : Params) : Obj := { cls := PySem.Value.type "tuple", data := PySem.Data.seq #[] : PySem.Obj }
noncomputable def k_414 (P : Params) : Obj := { cls := PySem.Value.type "tuple", data := PySem.Data.seq #[PySem.Value.str (PySem.Str.ofString "chain") 772, PySem.Value.str (PySem.Str.ofString "at") 773, PySem.Value.str (PySem.Str.ofString "named") 774, PySem.Value.str (PySem.Str.ofString "subject") 775, PySem.Value.str (PySem.Str.ofString "pile") 776, PySem.Value.str (PySem.Str.ofString "host") 777, PySem.Value.str (PySem.Str.ofString "here") 778, PySem.Value.str (PySem.Str.ofString "rest") 779, PySem.Value.str (PySem.Str.ofString "kind") 780, PySem.Value.str (PySem.Str.ofString "value") 781] : PySem.Obj }
noncomputable def k_415 (P : Params) : Obj := { cls := PySem.Value.type "tuple", data := PySem.Data.seq #[] : PySem.Obj }
noncomputable def k_417 (P : Params) : Obj := { cls := PySem.Value.type "code", data := PySem.Data.fields #[PySem.Value.str (PySem.Str.ofString "advanced") 769, PySem.Value.str (PySem.Str.ofString "advanced") 770, PySem.Value.str (PySem.Str.ofString "/claim/cut.py") 771, PySem.Value.int 250 0, PySem.Value.int 6 0, PySem.Value.int 0 0, PySem.Value.int 0 0, PySem.Value.int 3 0, PySem.Value.ref 412, PySem.Value.bool Bool.true, PySem.Value.int 181 0, PySem.Value.ref 413, PySem.Value.none, PySem.Value.ref 414, PySem.Value.ref 415, PySem.Value.ref 416, PySem.Value.int 782 0, PySem.Value.int 250 0, PySem.Value.str (PySem.Str.ofString "/claim/cut.py") 783] : PySem.Obj }
noncomputable def k_418 (P : Params) : Obj := wb (fun b => { cls := PySem.Value.type "function", data := PySem.Data.func { name := PySem.Str.ofString "advanced", qualname := PySem.Str.ofString "advanced", params := { posonlyargs := [], args := [{ arg := PySem.Str.ofString "chain", annotation := Option.none, pos := { line := 250, col := 13, endLine := 250, endCol := 18 : PySem.Pos } : PySem.Arg }, { arg := PySem.Str.ofString "at", annotation := Option.none, pos := { line := 250, col := 20, endLine := 250, endCol := 22 : PySem.Pos } : PySem.Arg }, { arg := PySem.Str.ofString "named", annotation := Option.none, pos := { line := 250, col := 24, endLine := 250, endCol := 29 : PySem.Pos } : PySem.Arg }, { arg := PySem.Str.ofString "subject", annotation := Option.none, pos := { line := 250, col := 31, endLine := 250, endCol := 38 : PySem.Pos } : PySem.Arg }, { arg := PySem.Str.ofString "pile", annotation := Option.none, pos := { line := 250, col := 40, endLine := 250, endCol := 44 : PySem.Pos } : PySem.Arg }, { arg := PySem.Str.ofString "host", annotation := Option.none, pos := { line := 250, col := 46, endLine := 250, endCol := 50 : PySem.Pos } : PySem.Arg }], vararg := Option.none, kwonlyargs := [], kw_defaults := [], kwarg := Option.none, defaults := [] : PySem.Arguments }, body := PySem.FuncBody.stmts b, scope := { kind := PySem.ScopeKind.function, names := [(PySem.Str.ofString "chain", PySem.NameKind.local), (PySem.Str.ofString "at", PySem.NameKind.local), (PySem.Str.ofString "named", PySem.NameKind.local), (PySem.Str.ofString "subject", PySem.NameKind.local), (PySem.Str.ofString "pile", PySem.NameKind.local), (PySem.Str.ofString "host", PySem.NameKind.local), (PySem.Str.ofString "here", PySem.NameKind.local), (PySem.Str.ofString "rest", PySem.NameKind.local), (PySem.Str.ofString "kind", PySem.NameKind.local), (PySem.Str.ofString "value", PySem.NameKind.local), (PySem.Str.ofString "led_in", PySem.NameKind.globalImplicit), (PySem.Str.ofString "led_out", PySem.NameKind.globalImplicit), (PySem.Str.ofString "is_fail", PySem.NameKind.globalImplicit), (PySem.Str.ofString "pattern_of", PySem.NameKind.globalImplicit), (PySem.Str.ofString "steered", PySem.NameKind.globalImplicit), (PySem.Str.ofString "taken", PySem.NameKind.globalImplicit)], isGenerator := Bool.false, isCoroutine := Bool.false : PySem.Scope }, globals := 3, closure := [], defaults := PySem.Value.none, kwdefaults := PySem.Value.none, pyModule := PySem.Value.str (PySem.Str.ofString "snobol.trial") 727, code := PySem.Value.ref 417 : PySem.FuncData } : PySem.Obj }) [_, _, _, _, _, _, _, _] (rfl : _ = fB (stAt 54))
noncomputable def k_419 (P : Params) : Obj := { cls := PySem.Value.type "tuple", data := PySem.Data.seq #[] : PySem.Obj }
noncomputable def k_421 (P : Params) : Obj := { cls := PySem.Value.type "tuple", data := PySem.Data.seq #[PySem.Value.str (PySem.Str.ofString "here") 788, PySem.Value.str (PySem.Str.ofString "rest") 789, PySem.Value.str (PySem.Str.ofString "at") 790, PySem.Value.str (PySem.Str.ofString "named") 791, PySem.Value.str (PySem.Str.ofString "pile") 792, PySem.Value.str (PySem.Str.ofString "kind") 793] : PySem.Obj }
noncomputable def k_422 (P : Params) : Obj := { cls := PySem.Value.type "tuple", data := PySem.Data.seq #[] : PySem.Obj }
noncomputable def k_424 (P : Params) : Obj := { cls := PySem.Value.type "code", data := PySem.Data.fields #[PySem.Value.str (PySem.Str.ofString "led_in") 785, PySem.Value.str (PySem.Str.ofString "led_in") 786, PySem.Value.str (PySem.Str.ofString "/claim/cut.py") 787, PySem.Value.int 265 0, PySem.Value.int 5 0, PySem.Value.int 0 0, PySem.Value.int 0 0, PySem.Value.int 3 0, PySem.Value.ref 419, PySem.Value.bool Bool.true, PySem.Value.int 181 0, PySem.Value.ref 420, PySem.Value.none, PySem.Value.ref 421, PySem.Value.ref 422, PySem.Value.ref 423, PySem.Value.int 794 0, PySem.Value.int 265 0, PySem.Value.str (PySem.Str.ofString "/claim/cut.py") 795] : PySem.Obj }
noncomputable def k_425 (P : Params) : Obj := wb (fun b => { cls := PySem.Value.type "function", data := PySem.Data.func { name := PySem.Str.ofString "led_in", qualname := PySem.Str.ofString "led_in", params := { posonlyargs := [], args := [{ arg := PySem.Str.ofString "here", annotation := Option.none, pos := { line := 265, col := 11, endLine := 265, endCol := 15 : PySem.Pos } : PySem.Arg }, { arg := PySem.Str.ofString "rest", annotation := Option.none, pos := { line := 265, col := 17, endLine := 265, endCol := 21 : PySem.Pos } : PySem.Arg }, { arg := PySem.Str.ofString "at", annotation := Option.none, pos := { line := 265, col := 23, endLine := 265, endCol := 25 : PySem.Pos } : PySem.Arg }, { arg := PySem.Str.ofString "named", annotation := Option.none, pos := { line := 265, col := 27, endLine := 265, endCol := 32 : PySem.Pos } : PySem.Arg }, { arg := PySem.Str.ofString "pile", annotation := Option.none, pos := { line := 265, col := 34, endLine := 265, endCol := 38 : PySem.Pos } : PySem.Arg }], vararg := Option.none, kwonlyargs := [], kw_defaults := [], kwarg := Option.none, defaults := [] : PySem.Arguments }, body := PySem.FuncBody.stmts b, scope := { kind := PySem.ScopeKind.function, names := [(PySem.Str.ofString "here", PySem.NameKind.local), (PySem.Str.ofString "rest", PySem.NameKind.local), (PySem.Str.ofString "at", PySem.NameKind.local), (PySem.Str.ofString "named", PySem.NameKind.local), (PySem.Str.ofString "pile", PySem.NameKind.local), (PySem.Str.ofString "kind", PySem.NameKind.local)], isGenerator := Bool.false, isCoroutine := Bool.false : PySem.Scope }, globals := 3, closure := [], defaults := PySem.Value.none, kwdefaults := PySem.Value.none, pyModule := PySem.Value.str (PySem.Str.ofString "snobol.trial") 727, code := PySem.Value.ref 424 : PySem.FuncData } : PySem.Obj }) [_, _, _, _, _] (rfl : _ = fB (stAt 55))
noncomputable def k_426 (P : Params) : Obj := { cls := PySem.Value.type "tuple", data := PySem.Data.seq #[] : PySem.Obj }
noncomputable def k_428 (P : Params) : Obj := { cls := PySem.Value.type "tuple", data := PySem.Data.seq #[PySem.Value.str (PySem.Str.ofString "here") 800, PySem.Value.str (PySem.Str.ofString "rest") 801, PySem.Value.str (PySem.Str.ofString "at") 802, PySem.Value.str (PySem.Str.ofString "named") 803, PySem.Value.str (PySem.Str.ofString "subject") 804, PySem.Value.str (PySem.Str.ofString "pile") 805, PySem.Value.str (PySem.Str.ofString "host") 806, PySem.Value.str (PySem.Str.ofString "kind") 807, PySem.Value.str (PySem.Str.ofString "told") 808, PySem.Value.str (PySem.Str.ofString "begin") 809] : PySem.Obj }
noncomputable def k_429 (P : Params) : Obj := { cls := PySem.Value.type "tuple", data := PySem.Data.seq #[] : PySem.Obj }
noncomputable def k_431 (P : Params) : Obj := { cls := PySem.Value.type "code", data := PySem.Data.fields #[PySem.Value.str (PySem.Str.ofString "led_out") 797, PySem.Value.str (PySem.Str.ofString "led_out") 798, PySem.Value.str (PySem.Str.ofString "/claim/cut.py") 799, PySem.Value.int 276 0, PySem.Value.int 7 0, PySem.Value.int 0 0, PySem.Value.int 0 0, PySem.Value.int 3 0, PySem.Value.ref 426, PySem.Value.bool Bool.true, PySem.Value.int 181 0, PySem.Value.ref 427, PySem.Value.none, PySem.Value.ref 428, PySem.Value.ref 429, PySem.Value.ref 430, PySem.Value.int 810 0, PySem.Value.int 276 0, PySem.Value.str (PySem.Str.ofString "/claim/cut.py") 811] : PySem.Obj }
noncomputable def k_432 (P : Params) : Obj := wb (fun b => { cls := PySem.Value.type "function", data := PySem.Data.func { name := PySem.Str.ofString "led_out", qualname := PySem.Str.ofString "led_out", params := { posonlyargs := [], args := [{ arg := PySem.Str.ofString "here", annotation := Option.none, pos := { line := 276, col := 12, endLine := 276, endCol := 16 : PySem.Pos } : PySem.Arg }, { arg := PySem.Str.ofString "rest", annotation := Option.none, pos := { line := 276, col := 18, endLine := 276, endCol := 22 : PySem.Pos } : PySem.Arg }, { arg := PySem.Str.ofString "at", annotation := Option.none, pos := { line := 276, col := 24, endLine := 276, endCol := 26 : PySem.Pos } : PySem.Arg }, { arg := PySem.Str.ofString "named", annotation := Option.none, pos := { line := 276, col := 28, endLine := 276, endCol := 33 : PySem.Pos } : PySem.Arg }, { arg := PySem.Str.ofString "subject", annotation := Option.none, pos := { line := 276, col := 35, endLine := 276, endCol := 42 : PySem.Pos } : PySem.Arg }, { arg := PySem.Str.ofString "pile", annotation := Option.none, pos := { line := 276, col := 44, endLine := 276, endCol := 48 : PySem.Pos } : PySem.Arg }, { arg := PySem.Str.ofString "host", annotation := Option.none, pos := { line := 276, col := 50, endLine := 276, endCol := 54 : PySem.Pos } : PySem.Arg }], vararg := Option.none, kwonlyargs := [], kw_defaults := [], kwarg := Option.none, defaults := [] : PySem.Arguments }, body := PySem.FuncBody.stmts b, scope := { kind := PySem.ScopeKind.function, names := [(PySem.Str.ofString "here", PySem.NameKind.local), (PySem.Str.ofString "rest", PySem.NameKind.local), (PySem.Str.ofString "at", PySem.NameKind.local), (PySem.Str.ofString "named", PySem.NameKind.local), (PySem.Str.ofString "subject", PySem.NameKind.local), (PySem.Str.ofString "pile", PySem.NameKind.local), (PySem.Str.ofString "host", PySem.NameKind.local), (PySem.Str.ofString "kind", PySem.NameKind.local), (PySem.Str.ofString "told", PySem.NameKind.local), (PySem.Str.ofString "begin", PySem.NameKind.local)], isGenerator := Bool.false, isCoroutine := Bool.false : PySem.Scope }, globals := 3, closure := [], defaults := PySem.Value.none, kwdefaults := PySem.Value.none, pyModule := PySem.Value.str (PySem.Str.ofString "snobol.trial") 727, code := PySem.Value.ref 431 : PySem.FuncData } : PySem.Obj }) [_, _, _, _] (rfl : _ = fB (stAt 56))
noncomputable def k_433 (P : Params) : Obj := { cls := PySem.Value.type "tuple", data := PySem.Data.seq #[] : PySem.Obj }
noncomputable def k_435 (P : Params) : Obj := { cls := PySem.Value.type "tuple", data := PySem.Data.seq #[PySem.Value.str (PySem.Str.ofString "chain") 816, PySem.Value.str (PySem.Str.ofString "at") 817, PySem.Value.str (PySem.Str.ofString "named") 818, PySem.Value.str (PySem.Str.ofString "pile") 819, PySem.Value.str (PySem.Str.ofString "kind") 820, PySem.Value.str (PySem.Str.ofString "rest") 821] : PySem.Obj }
noncomputable def k_436 (P : Params) : Obj := { cls := PySem.Value.type "tuple", data := PySem.Data.seq #[] : PySem.Obj }
noncomputable def k_438 (P : Params) : Obj := { cls := PySem.Value.type "code", data := PySem.Data.fields #[PySem.Value.str (PySem.Str.ofString "steered") 813, PySem.Value.str (PySem.Str.ofString "steered") 814, PySem.Value.str (PySem.Str.ofString "/claim/cut.py") 815, PySem.Value.int 283 0, PySem.Value.int 4 0, PySem.Value.int 0 0, PySem.Value.int 0 0, PySem.Value.int 3 0, PySem.Value.ref 433, PySem.Value.bool Bool.true, PySem.Value.int 181 0, PySem.Value.ref 434, PySem.Value.none, PySem.Value.ref 435, PySem.Value.ref 436, PySem.Value.ref 437, PySem.Value.int 822 0, PySem.Value.int 283 0, PySem.Value.str (PySem.Str.ofString "/claim/cut.py") 823] : PySem.Obj }
noncomputable def k_439 (P : Params) : Obj := wb (fun b => { cls := PySem.Value.type "function", data := PySem.Data.func { name := PySem.Str.ofString "steered", qualname := PySem.Str.ofString "steered", params := { posonlyargs := [], args := [{ arg := PySem.Str.ofString "chain", annotation := Option.none, pos := { line := 283, col := 12, endLine := 283, endCol := 17 : PySem.Pos } : PySem.Arg }, { arg := PySem.Str.ofString "at", annotation := Option.none, pos := { line := 283, col := 19, endLine := 283, endCol := 21 : PySem.Pos } : PySem.Arg }, { arg := PySem.Str.ofString "named", annotation := Option.none, pos := { line := 283, col := 23, endLine := 283, endCol := 28 : PySem.Pos } : PySem.Arg }, { arg := PySem.Str.ofString "pile", annotation := Option.none, pos := { line := 283, col := 30, endLine := 283, endCol := 34 : PySem.Pos } : PySem.Arg }], vararg := Option.none, kwonlyargs := [], kw_defaults := [], kwarg := Option.none, defaults := [] : PySem.Arguments }, body := PySem.FuncBody.stmts b, scope := { kind := PySem.ScopeKind.function, names := [(PySem.Str.ofString "chain", PySem.NameKind.local), (PySem.Str.ofString "at", PySem.NameKind.local), (PySem.Str.ofString "named", PySem.NameKind.local), (PySem.Str.ofString "pile", PySem.NameKind.local), (PySem.Str.ofString "kind", PySem.NameKind.local), (PySem.Str.ofString "rest", PySem.NameKind.local), (PySem.Str.ofString "LOST", PySem.NameKind.globalImplicit)], isGenerator := Bool.false, isCoroutine := Bool.false : PySem.Scope }, globals := 3, closure := [], defaults := PySem.Value.none, kwdefaults := PySem.Value.none, pyModule := PySem.Value.str (PySem.Str.ofString "snobol.trial") 727, code := PySem.Value.ref 438 : PySem.FuncData } : PySem.Obj }) [_, _, _, _, _] (rfl : _ = fB (stAt 57))
noncomputable def k_440 (P : Params) : Obj := { cls := PySem.Value.type "tuple", data := PySem.Data.seq #[] : PySem.Obj }
noncomputable def k_442 (P : Params) : Obj := { cls := PySem.Value.type "tuple", data := PySem.Data.seq #[PySem.Value.str (PySem.Str.ofString "here") 828, PySem.Value.str (PySem.Str.ofString "rest") 829, PySem.Value.str (PySem.Str.ofString "at") 830, PySem.Value.str (PySem.Str.ofString "named") 831, PySem.Value.str (PySem.Str.ofString "subject") 832, PySem.Value.str (PySem.Str.ofString "pile") 833, PySem.Value.str (PySem.Str.ofString "host") 834, PySem.Value.str (PySem.Str.ofString "kind") 835, PySem.Value.str (PySem.Str.ofString "ends") 836, PySem.Value.str (PySem.Str.ofString "end") 837, PySem.Value.str (PySem.Str.ofString "plain") 838] : PySem.Obj }
noncomputable def k_443 (P : Params) : Obj := { cls := PySem.Value.type "tuple", data := PySem.Data.seq #[] : PySem.Obj }
noncomputable def k_445 (P : Params) : Obj := { cls := PySem.Value.type "code", data := PySem.Data.fields #[PySem.Value.str (PySem.Str.ofString "taken") 825, PySem.Value.str (PySem.Str.ofString "taken") 826, PySem.Value.str (PySem.Str.ofString "/claim/cut.py") 827, PySem.Value.int 291 0, PySem.Value.int 7 0, PySem.Value.int 0 0, PySem.Value.int 0 0, PySem.Value.int 3 0, PySem.Value.ref 440, PySem.Value.bool Bool.true, PySem.Value.int 181 0, PySem.Value.ref 441, PySem.Value.none, PySem.Value.ref 442, PySem.Value.ref 443, PySem.Value.ref 444, PySem.Value.int 839 0, PySem.Value.int 291 0, PySem.Value.str (PySem.Str.ofString "/claim/cut.py") 840] : PySem.Obj }
noncomputable def k_446 (P : Params) : Obj := wb (fun b => { cls := PySem.Value.type "function", data := PySem.Data.func { name := PySem.Str.ofString "taken", qualname := PySem.Str.ofString "taken", params := { posonlyargs := [], args := [{ arg := PySem.Str.ofString "here", annotation := Option.none, pos := { line := 291, col := 10, endLine := 291, endCol := 14 : PySem.Pos } : PySem.Arg }, { arg := PySem.Str.ofString "rest", annotation := Option.none, pos := { line := 291, col := 16, endLine := 291, endCol := 20 : PySem.Pos } : PySem.Arg }, { arg := PySem.Str.ofString "at", annotation := Option.none, pos := { line := 291, col := 22, endLine := 291, endCol := 24 : PySem.Pos } : PySem.Arg }, { arg := PySem.Str.ofString "named", annotation := Option.none, pos := { line := 291, col := 26, endLine := 291, endCol := 31 : PySem.Pos } : PySem.Arg }, { arg := PySem.Str.ofString "subject", annotation := Option.none, pos := { line := 291, col := 33, endLine := 291, endCol := 40 : PySem.Pos } : PySem.Arg }, { arg := PySem.Str.ofString "pile", annotation := Option.none, pos := { line := 291, col := 42, endLine := 291, endCol := 46 : PySem.Pos } : PySem.Arg }, { arg := PySem.Str.ofString "host", annotation := Option.none, pos := { line := 291, col := 48, endLine := 291, endCol := 52 : PySem.Pos } : PySem.Arg }], vararg := Option.none, kwonlyargs := [], kw_defaults := [], kwarg := Option.none, defaults := [] : PySem.Arguments }, body := PySem.FuncBody.stmts b, scope := { kind := PySem.ScopeKind.function, names := [(PySem.Str.ofString "here", PySem.NameKind.local), (PySem.Str.ofString "rest", PySem.NameKind.local), (PySem.Str.ofString "at", PySem.NameKind.local), (PySem.Str.ofString "named", PySem.NameKind.local), (PySem.Str.ofString "subject", PySem.NameKind.local), (PySem.Str.ofString "pile", PySem.NameKind.local), (PySem.Str.ofString "host", PySem.NameKind.local), (PySem.Str.ofString "kind", PySem.NameKind.local), (PySem.Str.ofString "ends", PySem.NameKind.local), (PySem.Str.ofString "end", PySem.NameKind.local), (PySem.Str.ofString "plain", PySem.NameKind.local), (PySem.Str.ofString "len", PySem.NameKind.globalImplicit), (PySem.Str.ofString "bal_ends", PySem.NameKind.globalImplicit), (PySem.Str.ofString "settled", PySem.NameKind.globalImplicit), (PySem.Str.ofString "plain_end", PySem.NameKind.globalImplicit)], isGenerator := Bool.false, isCoroutine := Bool.false : PySem.Scope }, globals := 3, closure := [], defaults := PySem.Value.none, kwdefaults := PySem.Value.none, pyModule := PySem.Value.str (PySem.Str.ofString "snobol.trial") 727, code := PySem.Value.ref 445 : PySem.FuncData } : PySem.Obj }) [_, _, _, _, _, _, _] (rfl : _ = fB (stAt 58))
noncomputable def k_447 (P : Params) : Obj := { cls := PySem.Value.type "tuple", data := PySem.Data.seq #[] : PySem.Obj }
noncomputable def k_450 (P : Params) : Obj := { cls := PySem.Value.type "code", data := PySem.Data.fields #[PySem.Value.str (PySem.Str.ofString "law") 844, PySem.Value.str (PySem.Str.ofString "law") 845, PySem.Value.str (PySem.Str.ofString "/claim/cut.py") 846, PySem.Value.int 308 0, PySem.Value.int 1 0, PySem.Value.int 0 0, PySem.Value.int 0 0, PySem.Value.int 3 0, PySem.Value.ref 447, PySem.Value.bool Bool.true, PySem.Value.int 181 0, PySem.Value.ref 448, PySem.Value.none, PySem.Value.none, PySem.Value.none, PySem.Value.ref 449, PySem.Value.int 847 0, PySem.Value.int 308 0, PySem.Value.str (PySem.Str.ofString "/claim/cut.py") 848] : PySem.Obj }
noncomputable def k_451 (P : Params) : Obj := wb (fun b => { cls := PySem.Value.type "function", data := PySem.Data.func { name := PySem.Str.ofString "law", qualname := PySem.Str.ofString "law", params := { posonlyargs := [], args := [{ arg := PySem.Str.ofString "script", annotation := Option.none, pos := { line := 308, col := 8, endLine := 308, endCol := 14 : PySem.Pos } : PySem.Arg }], vararg := Option.none, kwonlyargs := [], kw_defaults := [], kwarg := Option.none, defaults := [] : PySem.Arguments }, body := PySem.FuncBody.stmts b, scope := { kind := PySem.ScopeKind.function, names := [(PySem.Str.ofString "script", PySem.NameKind.local), (PySem.Str.ofString "usual", PySem.NameKind.local), (PySem.Str.ofString "cells", PySem.NameKind.cell), (PySem.Str.ofString "first", PySem.NameKind.local), (PySem.Str.ofString "node", PySem.NameKind.local), (PySem.Str.ofString "told", PySem.NameKind.local), (PySem.Str.ofString "row", PySem.NameKind.cell), (PySem.Str.ofString "turn", PySem.NameKind.local), (PySem.Str.ofString "host", PySem.NameKind.local), (PySem.Str.ofString "places", PySem.NameKind.local), (PySem.Str.ofString "place", PySem.NameKind.local), (PySem.Str.ofString "later", PySem.NameKind.cell), (PySem.Str.ofString "sign", PySem.NameKind.local), (PySem.Str.ofString "most", PySem.NameKind.local), (PySem.Str.ofString "front", PySem.NameKind.local), (PySem.Str.ofString "begun", PySem.NameKind.local), (PySem.Str.ofString "rest", PySem.NameKind.local), (PySem.Str.ofString "left", PySem.NameKind.local), (PySem.Str.ofString "many", PySem.NameKind.local), (PySem.Str.ofString "more", PySem.NameKind.local), (PySem.Str.ofString "len", PySem.NameKind.globalImplicit), (PySem.Str.ofString "range", PySem.NameKind.globalImplicit), (PySem.Str.ofString "NameRef", PySem.NameKind.globalImplicit), (PySem.Str.ofString "PlainHost", PySem.NameKind.globalImplicit), (PySem.Str.ofString "match_plain", PySem.NameKind.globalImplicit), (PySem.Str.ofString "spliced", PySem.NameKind.globalImplicit), (PySem.Str.ofString "any", PySem.NameKind.globalImplicit), (PySem.Str.ofString "replace_often", PySem.NameKind.globalImplicit), (PySem.Str.ofString "min", PySem.NameKind.globalImplicit), (PySem.Str.ofString "set", PySem.NameKind.globalImplicit)], isGenerator := Bool.false, isCoroutine := Bool.false, more := [(PySem.Str.ofString "fast", PySem.Const.str (PySem.Str.ofString "script")), (PySem.Str.ofString "fast", PySem.Const.str (PySem.Str.ofString "usual")), (PySem.Str.ofString "fast", PySem.Const.str (PySem.Str.ofString "one")), (PySem.Str.ofString "fast", PySem.Const.str (PySem.Str.ofString "cells")), (PySem.Str.ofString "fast", PySem.Const.str (PySem.Str.ofString "at")), (PySem.Str.ofString "fast", PySem.Const.str (PySem.Str.ofString "first")), (PySem.Str.ofString "fast", PySem.Const.str (PySem.Str.ofString "node")), (PySem.Str.ofString "fast", PySem.Const.str (PySem.Str.ofString "told")), (PySem.Str.ofString "fast", PySem.Const.str (PySem.Str.ofString "row")), (PySem.Str.ofString "fast", PySem.Const.str (PySem.Str.ofString "turn")), (PySem.Str.ofString "fast", PySem.Const.str (PySem.Str.ofString "host")), (PySem.Str.ofString "fast", PySem.Const.str (PySem.Str.ofString "name")), (PySem.Str.ofString "fast", PySem.Const.str (PySem.Str.ofString "value")), (PySem.Str.ofString "fast", PySem.Const.str (PySem.Str.ofString "places")), (PySem.Str.ofString "fast", PySem.Const.str (PySem.Str.ofString "place")), (PySem.Str.ofString "fast", PySem.Const.str (PySem.Str.ofString "later")), (PySem.Str.ofString "fast", PySem.Const.str (PySem.Str.ofString "sign")), (PySem.Str.ofString "fast", PySem.Const.str (PySem.Str.ofString "most")), (PySem.Str.ofString "fast", PySem.Const.str (PySem.Str.ofString "front")), (PySem.Str.ofString "fast", PySem.Const.str (PySem.Str.ofString "begun")), (PySem.Str.ofString "fast", PySem.Const.str (PySem.Str.ofString "rest")), (PySem.Str.ofString "fast", PySem.Const.str (PySem.Str.ofString "left")), (PySem.Str.ofString "fast", PySem.Const.str (PySem.Str.ofString "many")), (PySem.Str.ofString "fast", PySem.Const.str (PySem.Str.ofString "more"))] : PySem.Scope }, globals := 3, closure := [], defaults := PySem.Value.none, kwdefaults := PySem.Value.none, pyModule := PySem.Value.str (PySem.Str.ofString "law_xm0956_02") 842, code := PySem.Value.ref 450 : PySem.FuncData } : PySem.Obj }) [_, _, _, _, _, _, _, _, _, _, _, _, _] (rfl : _ = fB (stAt 60))
noncomputable def KK (P : Params) : Frag := (nat_lit 2, k_2 P) :: (nat_lit 3, k_3 P) :: (nat_lit 15, k_15 P) :: (nat_lit 17, k_17 P) :: (nat_lit 18, k_18 P) :: (nat_lit 20, k_20 P) :: (nat_lit 21, k_21 P) :: (nat_lit 22, k_22 P) :: (nat_lit 24, k_24 P) :: (nat_lit 25, k_25 P) :: (nat_lit 27, k_27 P) :: (nat_lit 28, k_28 P) :: (nat_lit 29, k_29 P) :: (nat_lit 31, k_31 P) :: (nat_lit 32, k_32 P) :: (nat_lit 34, k_34 P) :: (nat_lit 35, k_35 P) :: (nat_lit 36, k_36 P) :: (nat_lit 38, k_38 P) :: (nat_lit 39, k_39 P) :: (nat_lit 41, k_41 P) :: (nat_lit 42, k_42 P) :: (nat_lit 43, k_43 P) :: (nat_lit 45, k_45 P) :: (nat_lit 46, k_46 P) :: (nat_lit 48, k_48 P) :: (nat_lit 49, k_49 P) :: (nat_lit 50, k_50 P) :: (nat_lit 53, k_53 P) :: (nat_lit 58, k_58 P) :: (nat_lit 59, k_59 P) :: (nat_lit 60, k_60 P) :: (nat_lit 62, k_62 P) :: (nat_lit 63, k_63 P) :: (nat_lit 65, k_65 P) :: (nat_lit 66, k_66 P) :: (nat_lit 67, k_67 P) :: (nat_lit 68, k_68 P) :: (nat_lit 69, k_69 P) :: (nat_lit 70, k_70 P) :: (nat_lit 80, k_80 P) :: (nat_lit 81, k_81 P) :: (nat_lit 82, k_82 P) :: (nat_lit 83, k_83 P) :: (nat_lit 84, k_84 P) :: (nat_lit 94, k_94 P) :: (nat_lit 96, k_96 P) :: (nat_lit 97, k_97 P) :: (nat_lit 99, k_99 P) :: (nat_lit 100, k_100 P) :: (nat_lit 101, k_101 P) :: (nat_lit 102, k_102 P) :: (nat_lit 103, k_103 P) :: (nat_lit 104, k_104 P) :: (nat_lit 105, k_105 P) :: (nat_lit 115, k_115 P) :: (nat_lit 117, k_117 P) :: (nat_lit 118, k_118 P) :: (nat_lit 120, k_120 P) :: (nat_lit 121, k_121 P) :: (nat_lit 122, k_122 P) :: (nat_lit 123, k_123 P) :: (nat_lit 124, k_124 P) :: (nat_lit 125, k_125 P) :: (nat_lit 126, k_126 P) :: (nat_lit 136, k_136 P) :: (nat_lit 138, k_138 P) :: (nat_lit 139, k_139 P) :: (nat_lit 141, k_141 P) :: (nat_lit 142, k_142 P) :: (nat_lit 143, k_143 P) :: (nat_lit 144, k_144 P) :: (nat_lit 145, k_145 P) :: (nat_lit 146, k_146 P) :: (nat_lit 147, k_147 P) :: (nat_lit 150, k_150 P) :: (nat_lit 152, k_152 P) :: (nat_lit 153, k_153 P) :: (nat_lit 155, k_155 P) :: (nat_lit 156, k_156 P) :: (nat_lit 157, k_157 P) :: (nat_lit 159, k_159 P) :: (nat_lit 160, k_160 P) :: (nat_lit 162, k_162 P) :: (nat_lit 163, k_163 P) :: (nat_lit 164, k_164 P) :: (nat_lit 166, k_166 P) :: (nat_lit 167, k_167 P) :: (nat_lit 169, k_169 P) :: (nat_lit 170, k_170 P) :: (nat_lit 171, k_171 P) :: (nat_lit 173, k_173 P) :: (nat_lit 174, k_174 P) :: (nat_lit 176, k_176 P) :: (nat_lit 177, k_177 P) :: (nat_lit 178, k_178 P) :: (nat_lit 180, k_180 P) :: (nat_lit 181, k_181 P) :: (nat_lit 183, k_183 P) :: (nat_lit 184, k_184 P) :: (nat_lit 185, k_185 P) :: (nat_lit 187, k_187 P) :: (nat_lit 188, k_188 P) :: (nat_lit 190, k_190 P) :: (nat_lit 191, k_191 P) :: (nat_lit 192, k_192 P) :: (nat_lit 194, k_194 P) :: (nat_lit 195, k_195 P) :: (nat_lit 197, k_197 P) :: (nat_lit 198, k_198 P) :: (nat_lit 206, k_206 P) :: (nat_lit 208, k_208 P) :: (nat_lit 209, k_209 P) :: (nat_lit 211, k_211 P) :: (nat_lit 212, k_212 P) :: (nat_lit 213, k_213 P) :: (nat_lit 215, k_215 P) :: (nat_lit 216, k_216 P) :: (nat_lit 218, k_218 P) :: (nat_lit 219, k_219 P) :: (nat_lit 220, k_220 P) :: (nat_lit 222, k_222 P) :: (nat_lit 223, k_223 P) :: (nat_lit 225, k_225 P) :: (nat_lit 226, k_226 P) :: (nat_lit 227, k_227 P) :: (nat_lit 229, k_229 P) :: (nat_lit 230, k_230 P) :: (nat_lit 232, k_232 P) :: (nat_lit 233, k_233 P) :: (nat_lit 234, k_234 P) :: (nat_lit 235, k_235 P) :: (nat_lit 236, k_236 P) :: (nat_lit 237, k_237 P) :: (nat_lit 238, k_238 P) :: (nat_lit 241, k_241 P) :: (nat_lit 242, k_242 P) :: (nat_lit 243, k_243 P) :: (nat_lit 244, k_244 P) :: (nat_lit 246, k_246 P) :: (nat_lit 247, k_247 P) :: (nat_lit 249, k_249 P) :: (nat_lit 250, k_250 P) :: (nat_lit 251, k_251 P) :: (nat_lit 253, k_253 P) :: (nat_lit 254, k_254 P) :: (nat_lit 256, k_256 P) :: (nat_lit 257, k_257 P) :: (nat_lit 258, k_258 P) :: (nat_lit 260, k_260 P) :: (nat_lit 261, k_261 P) :: (nat_lit 263, k_263 P) :: (nat_lit 264, k_264 P) :: (nat_lit 265, k_265 P) :: (nat_lit 267, k_267 P) :: (nat_lit 268, k_268 P) :: (nat_lit 270, k_270 P) :: (nat_lit 271, k_271 P) :: (nat_lit 272, k_272 P) :: (nat_lit 274, k_274 P) :: (nat_lit 275, k_275 P) :: (nat_lit 277, k_277 P) :: (nat_lit 278, k_278 P) :: (nat_lit 279, k_279 P) :: (nat_lit 281, k_281 P) :: (nat_lit 282, k_282 P) :: (nat_lit 284, k_284 P) :: (nat_lit 285, k_285 P) :: (nat_lit 286, k_286 P) :: (nat_lit 288, k_288 P) :: (nat_lit 289, k_289 P) :: (nat_lit 291, k_291 P) :: (nat_lit 292, k_292 P) :: (nat_lit 293, k_293 P) :: (nat_lit 295, k_295 P) :: (nat_lit 296, k_296 P) :: (nat_lit 298, k_298 P) :: (nat_lit 299, k_299 P) :: (nat_lit 300, k_300 P) :: (nat_lit 302, k_302 P) :: (nat_lit 303, k_303 P) :: (nat_lit 305, k_305 P) :: (nat_lit 306, k_306 P) :: (nat_lit 307, k_307 P) :: (nat_lit 309, k_309 P) :: (nat_lit 310, k_310 P) :: (nat_lit 312, k_312 P) :: (nat_lit 313, k_313 P) :: (nat_lit 314, k_314 P) :: (nat_lit 316, k_316 P) :: (nat_lit 317, k_317 P) :: (nat_lit 319, k_319 P) :: (nat_lit 320, k_320 P) :: (nat_lit 321, k_321 P) :: (nat_lit 323, k_323 P) :: (nat_lit 324, k_324 P) :: (nat_lit 326, k_326 P) :: (nat_lit 327, k_327 P) :: (nat_lit 328, k_328 P) :: (nat_lit 330, k_330 P) :: (nat_lit 331, k_331 P) :: (nat_lit 333, k_333 P) :: (nat_lit 334, k_334 P) :: (nat_lit 335, k_335 P) :: (nat_lit 337, k_337 P) :: (nat_lit 338, k_338 P) :: (nat_lit 340, k_340 P) :: (nat_lit 341, k_341 P) :: (nat_lit 342, k_342 P) :: (nat_lit 344, k_344 P) :: (nat_lit 345, k_345 P) :: (nat_lit 347, k_347 P) :: (nat_lit 348, k_348 P) :: (nat_lit 349, k_349 P) :: (nat_lit 351, k_351 P) :: (nat_lit 352, k_352 P) :: (nat_lit 354, k_354 P) :: (nat_lit 355, k_355 P) :: (nat_lit 356, k_356 P) :: (nat_lit 358, k_358 P) :: (nat_lit 359, k_359 P) :: (nat_lit 361, k_361 P) :: (nat_lit 362, k_362 P) :: (nat_lit 363, k_363 P) :: (nat_lit 365, k_365 P) :: (nat_lit 366, k_366 P) :: (nat_lit 368, k_368 P) :: (nat_lit 369, k_369 P) :: (nat_lit 370, k_370 P) :: (nat_lit 372, k_372 P) :: (nat_lit 373, k_373 P) :: (nat_lit 375, k_375 P) :: (nat_lit 376, k_376 P) :: (nat_lit 377, k_377 P) :: (nat_lit 379, k_379 P) :: (nat_lit 380, k_380 P) :: (nat_lit 382, k_382 P) :: (nat_lit 383, k_383 P) :: (nat_lit 384, k_384 P) :: (nat_lit 386, k_386 P) :: (nat_lit 387, k_387 P) :: (nat_lit 389, k_389 P) :: (nat_lit 390, k_390 P) :: (nat_lit 391, k_391 P) :: (nat_lit 393, k_393 P) :: (nat_lit 394, k_394 P) :: (nat_lit 396, k_396 P) :: (nat_lit 397, k_397 P) :: (nat_lit 398, k_398 P) :: (nat_lit 400, k_400 P) :: (nat_lit 401, k_401 P) :: (nat_lit 403, k_403 P) :: (nat_lit 404, k_404 P) :: (nat_lit 405, k_405 P) :: (nat_lit 407, k_407 P) :: (nat_lit 408, k_408 P) :: (nat_lit 410, k_410 P) :: (nat_lit 411, k_411 P) :: (nat_lit 412, k_412 P) :: (nat_lit 414, k_414 P) :: (nat_lit 415, k_415 P) :: (nat_lit 417, k_417 P) :: (nat_lit 418, k_418 P) :: (nat_lit 419, k_419 P) :: (nat_lit 421, k_421 P) :: (nat_lit 422, k_422 P) :: (nat_lit 424, k_424 P) :: (nat_lit 425, k_425 P) :: (nat_lit 426, k_426 P) :: (nat_lit 428, k_428 P) :: (nat_lit 429, k_429 P) :: (nat_lit 431, k_431 P) :: (nat_lit 432, k_432 P) :: (nat_lit 433, k_433 P) :: (nat_lit 435, k_435 P) :: (nat_lit 436, k_436 P) :: (nat_lit 438, k_438 P) :: (nat_lit 439, k_439 P) :: (nat_lit 440, k_440 P) :: (nat_lit 442, k_442 P) :: (nat_lit 443, k_443 P) :: (nat_lit 445, k_445 P) :: (nat_lit 446, k_446 P) :: (nat_lit 447, k_447 P) :: (nat_lit 450, k_450 P) :: (nat_lit 451, k_451 P) :: []


noncomputable abbrev q0 : Pos := { line := 0, col := 0, endLine := 0, endCol := 0 }
noncomputable def eB : Env := { scope := Pg.main.scope, locals := mainNs, globals := mainNs, cells := [], code := PySem.Value.ref 13, frame := some 14 }
noncomputable abbrev cE : Code := .body (behindTheImports Pg) eB
noncomputable def vw : Program := view Pg [1, 2, 3, 4, 5, 7, 8, 9, 10, 11, 12, 13, 14, 15, 16, 17, 18, 20, 22, 23, 24, 26, 27, 28, 29, 31, 32, 33, 34, 35, 36, 37, 38, 39, 40, 41, 42, 43, 44, 45, 46, 47, 48, 50, 51, 52, 53, 54, 55, 56, 57, 58, 60]
noncomputable abbrev ls : List PySem.Str := [PySem.Str.ofString "SnobolError", PySem.Str.ofString "plain_count"]
noncomputable abbrev Xt0 : Shared → Bool := fun s => xlAt vw [] s && recOk (RowW.records PySem.Challenge.rw_xm0956_02.row.toRowW) s
noncomputable abbrev mods := importedModules Pg.main.body
noncomputable def asK : List Addr := [2, 3, 15, 17, 18, 20, 21, 22, 24, 25, 27, 28, 29, 31, 32, 34, 35, 36, 38, 39, 41, 42, 43, 45, 46, 48, 49, 50, 53, 58, 59, 60, 62, 63, 65, 66, 67, 68, 69, 70, 80, 81, 82, 83, 84, 94, 96, 97, 99, 100, 101, 102, 103, 104, 105, 115, 117, 118, 120, 121, 122, 123, 124, 125, 126, 136, 138, 139, 141, 142, 143, 144, 145, 146, 147, 150, 152, 153, 155, 156, 157, 159, 160, 162, 163, 164, 166, 167, 169, 170, 171, 173, 174, 176, 177, 178, 180, 181, 183, 184, 185, 187, 188, 190, 191, 192, 194, 195, 197, 198, 206, 208, 209, 211, 212, 213, 215, 216, 218, 219, 220, 222, 223, 225, 226, 227, 229, 230, 232, 233, 234, 235, 236, 237, 238, 241, 242, 243, 244, 246, 247, 249, 250, 251, 253, 254, 256, 257, 258, 260, 261, 263, 264, 265, 267, 268, 270, 271, 272, 274, 275, 277, 278, 279, 281, 282, 284, 285, 286, 288, 289, 291, 292, 293, 295, 296, 298, 299, 300, 302, 303, 305, 306, 307, 309, 310, 312, 313, 314, 316, 317, 319, 320, 321, 323, 324, 326, 327, 328, 330, 331, 333, 334, 335, 337, 338, 340, 341, 342, 344, 345, 347, 348, 349, 351, 352, 354, 355, 356, 358, 359, 361, 362, 363, 365, 366, 368, 369, 370, 372, 373, 375, 376, 377, 379, 380, 382, 383, 384, 386, 387, 389, 390, 391, 393, 394, 396, 397, 398, 400, 401, 403, 404, 405, 407, 408, 410, 411, 412, 414, 415, 417, 418, 419, 421, 422, 424, 425, 426, 428, 429, 431, 432, 433, 435, 436, 438, 439, 440, 442, 443, 445, 446, 447, 450, 451]
theorem asK_eq (P : Params) : asK = (KK P).map (·.1) := by kernel_rfl
noncomputable abbrev hk : Hook := kmHook KK asK asK_eq [448]
noncomputable abbrev anB : Option Value := some (.ref 6)
noncomputable def sB (w : World) (os : OsState) : SharedT := { tree := tB w.params, n := 15, life := {}, gens := #[], drawn := {}, toks := 187, os := os }
noncomputable def sA (w : World) (os : OsState) : Shared := ⟨hA w.params, #[], {}, 187, os⟩
noncomputable def thA : Thread := ⟨denote treeTable cE, cE, q0, [topFrame q0]⟩
noncomputable def runAll (w : World) (os : OsState) := segRunT treeTable Pg w 11 anB 1 3011 (sB w os) (piecesOf (behindTheImports Pg) eB cE q0 [topFrame q0])
noncomputable def force {α β : Type} (l : List α) (k : List α → β) : β := @List.rec α (fun _ => (List α → β) → β) (fun k => k []) (fun x _ ih k => ih (fun ys => k (x :: ys))) l k
theorem force_eq {α β : Type} (l : List α) (k : List α → β) : force l k = k l := by
  induction l generalizing k with
  | nil => rfl
  | cons x xs ih => exact ih (fun ys => k (x :: ys))
noncomputable def forceT {β : Type} (s : SharedT) (k : Shared → β) : β := force (s.tree.list s.n) (fun l => k ⟨⟨l.toArray, s.life⟩, s.gens, s.drawn, s.toks, s.os⟩)
theorem forceT_eq {β : Type} (s : SharedT) (k : Shared → β) : forceT s k = k s.abs := force_eq _ _
noncomputable abbrev lookA (P : Params) (s : Shared) : Bool := staticsOk mods (boot_heap P) s.heap && namesBound Pg s.heap && gensDone s && laidKept (boot_heap P) s.heap
theorem hd_pre : ∀ w : World, (fun os => topGo treeTable Pg w 11 anB 12 ⟨boot_heap w.params, #[], boot_drawn, boot_toks, os⟩ (topStub Pg)) = fun os => some (sA w os, thA) := by
  intro w; kernel_rfl
theorem hd_block : ∀ w : World, (fun os => segRun treeTable Pg w 11 anB 1 1 (sA w os) (blockOf (behindTheImports Pg) eB cE q0 [topFrame q0])) = fun os => some (.next, (sB w os).abs, cE, q0) := by
  intro w; kernel_rfl
theorem hd_fin (w : World) (s : Shared) (pos : Pos) : topRun treeTable Pg w 11 anB 2 s ⟨doneF .next, cE, pos, [topFrame q0]⟩ = some s := by
  kernel_rfl
theorem hd_one : ∀ w : World, (fun os => (runAll w os).map (fun r => forceT r.2.1 (fun s => (r.1, r.2.2.1, lookA w.params s, hk.obs s)))) = fun os => some (Flow.next, cE, true, hk.val w) := by
  intro w; kernel_rfl
theorem hd_two : ∀ w : World, (fun os => (runAll w os).map (fun r => forceT r.2.1 (fun s => openSeen vw ls mods Xt0 true s))) = fun os => some (openGood vw ls) := by
  intro w; kernel_rfl
theorem hd_run (w : World) (os : OsState) : ∃ s1, topRun treeTable Pg w 11 anB (12 + (1 + (3011 + 2))) ⟨boot_heap w.params, #[], boot_drawn, boot_toks, os⟩ (topStub Pg) = some s1 ∧
    lookA w.params s1 = true ∧ openSeen vw ls mods Xt0 true s1 = openGood vw ls ∧ hk.obs s1 = hk.val w := by
  obtain ⟨r, hr, e⟩ := Option.map_eq_some_iff.mp (congrFun (hd_one w) os)
  obtain ⟨r', hr', e'⟩ := Option.map_eq_some_iff.mp (congrFun (hd_two w) os)
  obtain rfl : r = r' := Option.some.inj (hr.symm.trans hr')
  rw [forceT_eq] at e e'
  obtain ⟨f, s, c, pos⟩ := r
  obtain ⟨e1, e2, e3, e4⟩ : f = Flow.next ∧ c = cE ∧ lookA w.params s.abs = true ∧ hk.obs s.abs = hk.val w := by
    simpa only [Prod.mk.injEq] using e
  subst e1
  subst e2
  refine ⟨s.abs, ?_, e3, e', e4⟩
  have k := piece_app (rest := []) (segRun_of hr) (piece_nil (hd_fin w s.abs pos))
  rw [List.append_nil] at k
  exact go_top (congrFun (hd_pre w) os) (piece_block (congrFun (hd_block w) os) k)
theorem hd_open : ∀ w : World, (fencedOpening treeTable Pg w 5948).map (fun s => (s.heap, s.gens, s.drawn, s.toks)) = some (boot_heap w.params, #[], boot_drawn, boot_toks) :=
  boot_open (by kernel_rfl) (by decide) (fun s => by kernel_rfl)
theorem hd_size (P : Params) : ((boot_heap P).isNs mainGlobals, (boot_heap P).objs.size, (boot_heap P).nsMap mainGlobals "__annotations__") = (true, 11, anB) := by
  kernel_rfl
theorem hd_left : LeftO Pg vw ls Xt0 hk.obs hk.val 5948 := fun w => by
  obtain ⟨⟨h, gs, d, k, os⟩, e, e'⟩ := Option.map_eq_some_iff.mp (hd_open w)
  simp only [Prod.mk.injEq] at e'
  obtain ⟨e1, e2, e3, e4⟩ := e'
  obtain ⟨s1, r, a, b, c⟩ := hd_run w os
  have sz := hd_size w.params
  simp only [Prod.mk.injEq] at sz
  have t : topFrom treeTable Pg w 5948 ⟨h, gs, d, k, os⟩ = some s1 := by
    subst e1
    subst e2
    subst e3
    subst e4
    unfold topFrom
    dsimp only
    rw [sz.1, sz.2.1, sz.2.2]
    show (Option.bind (topRun treeTable Pg w 11 anB 5948 _ (topStub Pg)) _) = _
    rw [show (5948 : Nat) = 12 + (1 + (3011 + 2)) + 2922 from rfl, topRun_mono 2922 _ _ _ _ r]
    show (match lookA w.params s1 with | true => some s1 | false => none) = _
    rw [a]
  show (Option.map _ (Option.bind (fencedOpening treeTable Pg w 5948) _)) = _
  rw [e]
  show (Option.map _ (topFrom treeTable Pg w 5948 ⟨h, gs, d, k, os⟩)) = _
  rw [t]
  exact congrArg some (Prod.ext b c)
end
end Mine
end
section
open PySem PySem.W PyProof.Rows
set_option maxRecDepth 100000
set_option maxHeartbeats 0
namespace Mine
theorem hd_ok : (chainsOk vw && opensWell PySem.Challenge.rw_xm0956_02.row.prog && (frees PySem.Challenge.rw_xm0956_02.row.toRowW && PySem.Challenge.rw_xm0956_02.row.within.isEmpty)) = true := by decide +kernel
theorem hd_bare : PySem.Challenge.rw_xm0956_02.row.prog.bare := ⟨rfl, rfl, rfl, rfl, rfl, by decide +kernel⟩
theorem hd_said : (PySem.Challenge.rw_xm0956_02 : OpenLaw).wellSaid = true := by decide +kernel
theorem hd_well : PySem.Challenge.rw_xm0956_02.row.wellSaid = true → PySem.Challenge.rw_xm0956_02.row.wellSaid = true := fun h => h
end Mine
end
section
open PySem PySem.Spec PySem.Calls PySem.W PyProof.Rows
namespace Mine
noncomputable abbrev Led := List (Addr × Obj)
noncomputable abbrev tup (vs : Array Value) (n : Nat) : Obj := { cls := .type "tuple", data := .seq vs n }

noncomputable def Does (prog : Program) (w : World) (K : Frag) (p : Program) (loose : List Str) (mean : ExcName → Option Value) (mg mb : Str → Option Value) (f : Addr) (dp0 un0 : Nat) (vs : List Value) (news : Led) (Post : Value → Led → Prop) : Prop :=
  ∀ (dp un : Nat) (gd : Option (List Code)) (cn : Str) (cs : Scope) (a : Addr) (ccd : Value) (cl : List (Str × Addr)) (outer : List Env) (A₀ : Around) (base h₀ : Heap) (L : Addr) (m : Str → Option Value) (s : Shared) (Q E : Value → Shared → Prop),
    Below A₀ base outer h₀ → Fr h₀ L s.heap m → K.In h₀ → News h₀ L s.heap news → Top p loose mean mg mb h₀ → cs.kind = .function → dp + dp0 < recursionLimit → un + un0 < cLine →
    (∀ r news' h' tk', Fr h₀ L h' m → News h₀ L h' news' → Post r news' → Q r { s with heap := h', toks := tk' }) →
    wpAny (model prog w) (ktrTop dp un gd cn cs L a ccd cl outer) (call (.ref f) vs) Q E s

theorem News.sub {h₀ h : Heap} {L : Addr} {l l' : Led} (N : News h₀ L h l) (h1 : ∀ q ∈ l', q ∈ l) : News h₀ L h l' := fun p hp => N p (h1 p hp)

theorem Does.use {prog : Program} {w : World} {K : Frag} {p : Program} {loose : List Str} {mean : ExcName → Option Value} {mg mb : Str → Option Value} {f : Addr} {dp0 un0 : Nat} {vs : List Value} {led news : Led} {Post : Value → Led → Prop}
    {dp un : Nat} {gd : Option (List Code)} {cn : Str} {cs : Scope} {a : Addr} {ccd : Value} {cl : List (Str × Addr)} {outer : List Env} {A₀ : Around} {base h₀ : Heap} {L : Addr} {m : Str → Option Value} {s : Shared} {Q E : Value → Shared → Prop}
    (C : Does prog w K p loose mean mg mb f dp0 un0 vs led Post)
    (B : Below A₀ base outer h₀) (F : Fr h₀ L s.heap m) (X : K.In h₀) (N : News h₀ L s.heap news) (T : Top p loose mean mg mb h₀) (hk : cs.kind = .function) (hsub : ∀ q ∈ led, q ∈ news) (hd : dp + dp0 < recursionLimit) (hu : un + un0 < cLine)
    (ret : ∀ r news' h' tk', Fr h₀ L h' m → News h₀ L h' news' → Post r news' → Q r { s with heap := h', toks := tk' }) :
    wpAny (model prog w) (ktrTop dp un gd cn cs L a ccd cl outer) (call (.ref f) vs) Q E s :=
  C dp un gd cn cs a ccd cl outer A₀ base h₀ L m s Q E B F X (News.sub N hsub) T hk hd hu ret

noncomputable def Off (d : Addr) (l : Led) : Prop := ∀ p ∈ l, p.1 ≠ d
theorem Off.nil {d : Addr} : Off d [] := fun _ h => nomatch h
theorem Off.cons {d a : Addr} {o : Obj} {l : Led} (h : a ≠ d) (H : Off d l) : Off d ((a, o) :: l) := fun p hp => by
  rcases List.mem_cons.mp hp with rfl | hp
  · exact h
  · exact H p hp

inductive Dv
  | s (x : Str)
  | i (n : Int)
inductive DvIs : Value → Dv → Prop
  | s {x : Str} {t : Tok} : DvIs (.str x t) (.s x)
  | i {n : Int} {t : Tok} : DvIs (.int n t) (.i n)

inductive NameIn (im : Led) : Value → Str → Prop
  | mk {x dx : Addr} {h1 h2 h3 : Int} {t1 t2 t3 t4 tn : Tok} {nm : Str} : (x, instObj 145 dx) ∈ im →
      (dx, dictOf [⟨h1, .str (Str.ofString "kind") t1, .str (Str.ofString "var") t4⟩, ⟨h2, .str (Str.ofString "owner") t2, .none⟩, ⟨h3, .str (Str.ofString "key") t3, .str nm tn⟩] 3) ∈ im → nm.length ≤ 1000 → NameIn im (.ref x) nm

structure HS where
  vals : List (Str × Dv)
  log : List (Str × Dv)
  steps : Nat

inductive ValsIs : List (Str × Value) → List (Str × Dv) → Prop
  | nil : ValsIs [] []
  | cons {k : Str} {v : Value} {d : Dv} {l : List (Str × Value)} {r : List (Str × Dv)} : DvIs v d → ValsIs l r → ValsIs ((k, v) :: l) ((k, d) :: r)

inductive LogIn (im : Led) : List Value → List (Str × Dv) → Prop
  | nil : LogIn im [] []
  | cons {a : Addr} {k : Str} {t : Tok} {v : Value} {d : Dv} {n : Nat} {l : List Value} {r : List (Str × Dv)} : (a, tup #[.str k t, v] n) ∈ im → DvIs v d → LogIn im l r → LogIn im (.ref a :: l) ((k, d) :: r)

inductive HostIn (prog : Program) (w : World) (im : Led) (x hx vd lg : Addr) : Led → HS → Prop
  | mk {rf : Addr} {o : Obj} {kvs : List (Str × Value)} {its : List Value} {n : Nat} {h1 h2 h3 h4 h5 h6 : Int} {t1 t2 t3 t4 t5 t6 u2 u4 u5 : Tok} {vals log : List (Str × Dv)} {steps : Nat} :
      (x, instObj 236 hx) ∈ im → (rf, listOf #[] 0) ∈ im → o.IsDictOf (PySem.strKind prog w) kvs → ValsIs kvs vals → LogIn im its log →
      hx ≠ vd → hx ≠ lg → vd ≠ lg → vd ≠ hx → lg ≠ hx → lg ≠ vd → Off hx im → Off vd im → Off lg im → (vd == sysModules) = false → vals.length ≤ log.length →
      HostIn prog w im x hx vd lg [(hx, dictOf [⟨h1, .str (Str.ofString "values") t1, .ref vd⟩, ⟨h2, .str (Str.ofString "limit") t2, .int 9999 u2⟩, ⟨h3, .str (Str.ofString "refused") t3, .ref rf⟩, ⟨h4, .str (Str.ofString "width") t4, .int 64 u4⟩, ⟨h5, .str (Str.ofString "steps") t5, .int (steps : Int) u5⟩, ⟨h6, .str (Str.ofString "log") t6, .ref lg⟩] 6), (vd, o), (lg, listOf its.toArray n)]
        ⟨vals, log, steps⟩
theorem in_empty {prog : Program} {w : World} {A : Around} {E : Value → Shared → Prop} {s : Shared} {h₀ : Heap} {L l : Addr} {news : Led} {k : Str} {t : Tok} {Q : Value → Shared → Prop} {n : Nat} (N : News h₀ L s.heap news) (hm : (l, listOf #[] n) ∈ news) (h : Q (.bool false) s) :
    wpAny (model prog w) A (compareOp .In (.str k t) (.ref l)) Q E s := in_list_strs (vs := []) (News.isList N hm) .nil h
theorem ValsIs.length {l : List (Str × Value)} {r : List (Str × Dv)} (h : ValsIs l r) : l.length = r.length := by
  induction h with
  | nil => rfl
  | cons _ _ ih => rw [List.length_cons, List.length_cons, ih]
theorem LogIn.length {im : Led} {l : List Value} {r : List (Str × Dv)} (h : LogIn im l r) : l.length = r.length := by
  induction h with
  | nil => rfl
  | cons _ _ _ ih => rw [List.length_cons, List.length_cons, ih]

noncomputable def putv (l : List (Str × Dv)) (k : Str) (d : Dv) : List (Str × Dv) := if l.any (fun p => decide (p.1 = k)) then l.map (fun p => if p.1 = k then (p.1, d) else p) else l ++ [(k, d)]
theorem putv_len (l : List (Str × Dv)) (k : Str) (d : Dv) : (putv l k d).length ≤ l.length + 1 := by
  unfold putv; split
  · rw [List.length_map]; omega
  · rw [List.length_append]; simp
theorem ValsIs.snoc {l : List (Str × Value)} {r : List (Str × Dv)} {k : Str} {v : Value} {d : Dv} (h : ValsIs l r) (hv : DvIs v d) : ValsIs (l ++ [(k, v)]) (r ++ [(k, d)]) := by
  induction h with
  | nil => exact .cons hv .nil
  | cons a _ ih => exact .cons a ih
theorem ValsIs.any {l : List (Str × Value)} {r : List (Str × Dv)} (k : Str) (h : ValsIs l r) : (l.any fun p => decide (p.1 = k)) = r.any fun p => decide (p.1 = k) := by
  induction h with
  | nil => rfl
  | cons a _ ih => rw [List.any_cons, List.any_cons, ih]
theorem ValsIs.map {l : List (Str × Value)} {r : List (Str × Dv)} {k : Str} {v : Value} {d : Dv} (hv : DvIs v d) (h : ValsIs l r) :
    ValsIs (l.map fun p => if p.1 = k then (p.1, v) else p) (r.map fun p => if p.1 = k then (p.1, d) else p) := by
  induction h with
  | nil => exact .nil
  | @cons k' v' d' l r a _ ih =>
    rw [List.map_cons, List.map_cons]
    by_cases e : k' = k
    · simp only [e, if_true]; exact .cons hv ih
    · simp only [e, if_false]; exact .cons a ih
theorem ValsIs.stored {l : List (Str × Value)} {r : List (Str × Dv)} {k : Str} {v : Value} {d : Dv} (h : ValsIs l r) (hv : DvIs v d) : ValsIs (PySem.stored l k v) (putv r k d) := by
  unfold PySem.stored putv
  rw [h.any]
  split
  · exact h.map hv
  · exact h.snoc hv
theorem LogIn.mono {im im' : Led} {l : List Value} {r : List (Str × Dv)} (h : LogIn im l r) (hs : ∀ q ∈ im, q ∈ im') : LogIn im' l r := by
  induction h with
  | nil => exact .nil
  | cons a b _ ih => exact .cons (hs _ a) b ih
theorem LogIn.snoc {im : Led} {l : List Value} {r : List (Str × Dv)} {a : Addr} {k : Str} {t : Tok} {v : Value} {d : Dv} {n : Nat} (h : LogIn im l r) (hm : (a, tup #[.str k t, v] n) ∈ im) (hv : DvIs v d) : LogIn im (l ++ [.ref a]) (r ++ [(k, d)]) := by
  induction h with
  | nil => exact .cons hm hv .nil
  | cons a b _ ih => exact .cons a b ih
theorem NameIn.mono {im im' : Led} {v : Value} {nm : Str} (h : NameIn im v nm) (hs : ∀ q ∈ im, q ∈ im') : NameIn im' v nm := by
  cases h with
  | mk a b c => exact .mk (hs _ a) (hs _ b) c
theorem mem_31 {a b c d : Addr × Obj} {im fr : Led} : ∀ q ∈ [b, c, d] ++ ((a :: im) ++ fr), q ∈ a :: b :: c :: d :: (im ++ fr) := by
  intro q hq
  simp only [List.cons_append, List.nil_append, List.mem_cons, List.mem_append] at hq ⊢
  rcases hq with h | h | h | h | h | h <;> simp [h]
theorem Off.up {d a : Addr} {o : Obj} {l : Led} (h : d < a) (H : ∀ p ∈ l, p.1 ≠ d) : Off d ((a, o) :: l) := Off.cons (Nat.ne_of_gt h) H
noncomputable def Sep (fr im : Led) : Prop := ∀ f ∈ fr, ∀ q ∈ im, q.1 ≠ f.1
noncomputable def SepH (fr : Led) (hx vd lg : Addr) : Prop := ∀ f ∈ fr, f.1 ≠ hx ∧ f.1 ≠ vd ∧ f.1 ≠ lg
theorem Sep.nil {im : Led} : Sep [] im := fun _ h => nomatch h
theorem SepH.nil {hx vd lg : Addr} : SepH [] hx vd lg := fun _ h => nomatch h
theorem allLt_mem {d : Addr} : ∀ {l : Led}, AllLt d l → ∀ p ∈ l, p.1 < d
  | [], _, _, hp => nomatch hp
  | q :: r, h, p, hp => by
    rcases List.mem_cons.mp hp with rfl | hp
    · exact h.1
    · exact allLt_mem h.2 p hp
theorem allLt_app {d : Addr} {l l' : Led} (h : AllLt d (l ++ l')) : AllLt d l' := allLt_of fun p hp => allLt_mem h p (List.mem_append_right _ hp)
theorem Sep.up {fr im : Led} {a : Addr} {o : Obj} (h : AllLt a fr) (H : Sep fr im) : Sep fr ((a, o) :: im) := fun f hf q hq => by
  rcases List.mem_cons.mp hq with rfl | hq
  · exact Nat.ne_of_gt (allLt_mem h f hf)
  · exact H f hf q hq
theorem off_app {d : Addr} {im fr : Led} (h : ∀ p ∈ im, p.1 ≠ d) (h' : ∀ p ∈ fr, p.1 ≠ d) : ∀ p ∈ im ++ fr, p.1 ≠ d := fun p hp => (List.mem_append.mp hp).elim (h p) (h' p)
noncomputable def HS.assign (H : HS) (nm : Str) (d : Dv) : HS := ⟨putv H.vals nm d, H.log ++ [(nm, d)], H.steps⟩
noncomputable def HS.step (H : HS) : HS := ⟨H.vals, H.log, H.steps + 1⟩
end Mine
end
section
open PySem PySem.Spec PySem.Calls PySem.W PyProof.Rows
namespace Mine
inductive Nd
  | len (k : Nat)
  | notanyD (nm : Str)
  | cat (a b : Nd)
  | now (a : Nd) (nm : Str)
  | cursor (nm : Str)
  | fail

inductive NodeIn (im : Led) : Value → Nd → Prop
  | len {a : Addr} {k : Nat} {t t' : Tok} {n : Nat} : (a, tup #[.str (Str.ofString "len") t, .int (k : Int) t'] n) ∈ im → k ≤ 1000 → NodeIn im (.ref a) (.len k)
  | notanyD {a b c : Addr} {nm : Str} {t t' u u' : Tok} {n n' n'' : Nat} : (a, tup #[.str (Str.ofString "notany") t, .ref b] n) ∈ im → (b, tup #[.str (Str.ofString "delay") t', .ref c] n') ∈ im → (c, tup #[.str (Str.ofString "name") u, .str nm u'] n'') ∈ im → nm.length ≤ 1000 → NodeIn im (.ref a) (.notanyD nm)
  | cat {a : Addr} {t : Tok} {n : Nat} {u v : Value} {x y : Nd} : (a, tup #[.str (Str.ofString "cat") t, u, v] n) ∈ im → NodeIn im u x → NodeIn im v y → NodeIn im (.ref a) (.cat x y)
  | now {a : Addr} {t : Tok} {n : Nat} {u v : Value} {x : Nd} {nm : Str} : (a, tup #[.str (Str.ofString "now") t, u, v] n) ∈ im → NodeIn im u x → NameIn im v nm → NodeIn im (.ref a) (.now x nm)
  | cursor {a : Addr} {t : Tok} {n : Nat} {v : Value} {nm : Str} : (a, tup #[.str (Str.ofString "cursor") t, v] n) ∈ im → NameIn im v nm → NodeIn im (.ref a) (.cursor nm)
  | fail {a : Addr} {t : Tok} {n : Nat} : (a, tup #[.str (Str.ofString "fail") t] n) ∈ im → NodeIn im (.ref a) .fail
theorem NodeIn.mono {im im' : Led} {v : Value} {nd : Nd} (h : NodeIn im v nd) (hs : ∀ q ∈ im, q ∈ im') : NodeIn im' v nd := by
  induction h with
  | len a b => exact .len (hs _ a) b
  | notanyD a b c d => exact .notanyD (hs _ a) (hs _ b) (hs _ c) d
  | cat a _ _ i j => exact .cat (hs _ a) i j
  | now a _ c i => exact .now (hs _ a) i (c.mono hs)
  | cursor a c => exact .cursor (hs _ a) (c.mono hs)
  | fail a => exact .fail (hs _ a)

inductive It
  | nd (x : Nd)
  | endNow (nm : Str) (b : Nat)
inductive ItIn (im : Led) : Value → It → Prop
  | nd {v : Value} {x : Nd} : NodeIn im v x → ItIn im v (.nd x)
  | endNow {a : Addr} {t t' : Tok} {n : Nat} {v : Value} {nm : Str} {b : Nat} : (a, tup #[.str (Str.ofString "end now") t, v, .int (b : Int) t'] n) ∈ im → NameIn im v nm → b ≤ 1000 → ItIn im (.ref a) (.endNow nm b)
theorem ItIn.mono {im im' : Led} {v : Value} {i : It} (h : ItIn im v i) (hs : ∀ q ∈ im, q ∈ im') : ItIn im' v i := by
  cases h with
  | nd a => exact .nd (a.mono hs)
  | endNow a b c => exact .endNow (hs _ a) (b.mono hs) c
inductive ChainIn (im : Led) : Value → List It → Prop
  | nil : ChainIn im .none []
  | cons {a : Addr} {n : Nat} {u v : Value} {i : It} {r : List It} : (a, tup #[u, v] n) ∈ im → ItIn im u i → ChainIn im v r → ChainIn im (.ref a) (i :: r)
theorem ChainIn.mono {im im' : Led} {v : Value} {l : List It} (h : ChainIn im v l) (hs : ∀ q ∈ im, q ∈ im') : ChainIn im' v l := by
  induction h with
  | nil => exact .nil
  | cons a b _ ih => exact .cons (hs _ a) (b.mono hs) ih
inductive NilIn (im : Led) : Value → Prop
  | mk {a : Addr} {n : Nat} : (a, tup #[] n) ∈ im → NilIn im (.ref a)
theorem NilIn.mono {im im' : Led} {v : Value} (h : NilIn im v) (hs : ∀ q ∈ im, q ∈ im') : NilIn im' v := by
  cases h with
  | mk a => exact .mk (hs _ a)
inductive WayIn (im : Led) : Value → List It × Nat → Prop
  | mk {a : Addr} {n : Nat} {u v : Value} {k : Nat} {t : Tok} {r : List It} : (a, tup #[u, .int (k : Int) t, v] n) ∈ im → ChainIn im u r → NilIn im v → WayIn im (.ref a) (r, k)
theorem WayIn.mono {im im' : Led} {v : Value} {i : List It × Nat} (h : WayIn im v i) (hs : ∀ q ∈ im, q ∈ im') : WayIn im' v i := by
  cases h with
  | mk a b c => exact .mk (hs _ a) (b.mono hs) (c.mono hs)
inductive PileIn (im : Led) : List Value → List (List It × Nat) → Prop
  | nil : PileIn im [] []
  | snoc {l : List Value} {v : Value} {i : List It × Nat} {r : List (List It × Nat)} : WayIn im v i → PileIn im l r → PileIn im (l ++ [v]) (i :: r)
theorem PileIn.mono {im im' : Led} {v : List Value} {i : List (List It × Nat)} (h : PileIn im v i) (hs : ∀ q ∈ im, q ∈ im') : PileIn im' v i := by
  induction h with
  | nil => exact .nil
  | snoc a _ ih => exact .snoc (a.mono hs) ih
theorem PileIn.length {im : Led} {v : List Value} {i : List (List It × Nat)} (h : PileIn im v i) : v.length = i.length := by
  induction h with
  | nil => rfl
  | snoc a _ ih => rw [List.length_append, ih]; rfl
inductive WayOut (im : Led) : Value → Option (List It × Nat) → Prop
  | none : WayOut im .none .none
  | some {v : Value} {i : List It × Nat} : WayIn im v i → WayOut im v (.some i)
theorem HostIn.grow {prog : Program} {w : World} {im im0 mu : Led} {x hx vd lg q : Addr} {o : Obj} {H : HS} (h : HostIn prog w im x hx vd lg mu H) (hl : AllLt q (mu ++ im0)) : HostIn prog w ((q, o) :: im) x hx vd lg mu H := by
  cases h with
  | mk hx_ rf_ vd_ vals_ log_ n1 n2 n3 n4 n5 n6 o1 o2 o3 lo vz =>
    obtain ⟨a, b, c, _⟩ := hl
    exact .mk (.tail _ hx_) (.tail _ rf_) vd_ vals_ (log_.mono fun q hq => .tail _ hq) n1 n2 n3 n4 n5 n6 (Off.up a o1) (Off.up b o2) (Off.up c o3) lo vz
noncomputable def OverP (d : Addr) (l : Led) : Led → Prop
  | [] => True
  | p :: r => d < p.1 ∧ AllLt p.1 l ∧ OverP d l r
theorem HostIn.grows {prog : Program} {w : World} {im im0 mu : Led} {x hx vd lg d : Addr} {H : HS} (h : HostIn prog w im x hx vd lg mu H) : ∀ {e : Led}, OverP d (mu ++ im0) e → HostIn prog w (e ++ im) x hx vd lg mu H
  | [], _ => h
  | (_, _) :: _, ⟨_, b, c⟩ => (HostIn.grows h c).grow b
noncomputable def AdvPost (prog : Program) (w : World) (im fr : Led) (x hx vd lg pl : Addr) (o : Option (List It × Nat)) (pile' : List (List It × Nat)) (H' : HS) (r : Value) (news' : Led) : Prop :=
  ∃ mu' im' its' n', (∀ q ∈ (pl, listOf its'.toArray n') :: (mu' ++ (im' ++ fr)), q ∈ news') ∧ (∀ q ∈ im, q ∈ im') ∧ Off pl im' ∧ Sep fr im' ∧ PileIn im' its' pile' ∧ HostIn prog w im' x hx vd lg mu' H' ∧ WayOut im' r o
theorem OverP.off {d : Addr} {l im : Led} (ho : Off d im) : ∀ {e : Led}, OverP d l e → Off d (e ++ im)
  | [], _ => ho
  | (_, _) :: _, ⟨a, _, c⟩ => Off.cons (Nat.ne_of_gt a) (OverP.off ho c)
theorem OverP.sep {d : Addr} {mu im im0 fr : Led} (ho : Sep fr im) : ∀ {e : Led}, OverP d (mu ++ (im0 ++ fr)) e → Sep fr (e ++ im)
  | [], _ => ho
  | (_, _) :: _, ⟨_, b, c⟩ => (OverP.sep ho c).up (allLt_app (allLt_app b))
theorem mem_shuffle {a : Addr × Obj} {mu im fr e : Led} : ∀ q ∈ a :: (mu ++ ((e ++ im) ++ fr)), q ∈ e ++ (a :: (mu ++ (im ++ fr))) := by
  intro q hq
  simp only [List.mem_cons, List.mem_append] at hq ⊢
  rcases hq with h | h | (h | h) | h <;> simp [h]
theorem advEnd {prog : Program} {w : World} {im mu fr e : Led} {x hx vd lg pl : Addr} {o : Option (List It × Nat)} {pile' : List (List It × Nat)} {H : HS} {r : Value} {its' : List Value} {n' : Nat}
    (hh : HostIn prog w im x hx vd lg mu H) (ho : Off pl im) (hs : Sep fr im) (hE : OverP pl (mu ++ (im ++ fr)) e) (hp : PileIn (e ++ im) its' pile') (hw : WayOut (e ++ im) r o) :
    AdvPost prog w im fr x hx vd lg pl o pile' H r (e ++ ((pl, listOf its'.toArray n') :: (mu ++ (im ++ fr)))) :=
  ⟨mu, e ++ im, its', n', mem_shuffle, fun _ hq => List.mem_append_right _ hq, hE.off ho, hE.sep hs, hp, hh.grows hE, hw⟩
theorem HostIn.offs {prog : Program} {w : World} {im mu fr : Led} {x hx vd lg pl : Addr} {H : HS} (hh : HostIn prog w im x hx vd lg mu H) (ho : Off pl im) (hf : Off pl fr) (h1 : pl ≠ hx ∧ pl ≠ vd ∧ pl ≠ lg) : ∀ q ∈ mu ++ (im ++ fr), q.1 ≠ pl := by
  cases hh with
  | mk hx_ rf_ vd_ vals_ log_ n1 n2 n3 n4 n5 n6 o1 o2 o3 lo vz =>
    refine off_app (fun p hp => ?_) (off_app ho hf)
    simp only [List.mem_cons, List.not_mem_nil, or_false] at hp
    rcases hp with rfl | rfl | rfl
    · exact fun e => h1.1 e.symm
    · exact fun e => h1.2.1 e.symm
    · exact fun e => h1.2.2 e.symm
section
variable {prog prog' : Program} {w w' : World} {A : Around} {E : Value → Shared → Prop} {s : Shared} {K : Frag} {h₀ : Heap} {L x hx vd lg : Addr} {m : Str → Option Value} {news mu im : Led} {H : HS} {pl : Sem Bool} {f : Addr} {name : Str}
theorem hostM {Q : Value × List Value → Shared → Prop} (hh : HostIn prog' w' im x hx vd lg mu H) (F : Fr h₀ L s.heap m) (X₀ : K.In h₀) (N : News h₀ L s.heap news) (hsub : ∀ q ∈ mu ++ im, q ∈ news) (hg : plainGet K 236 name = true)
    (hf : findIn K (.ref 236) name = some (some (.ref f))) (ht : isFn K (.ref f) = true)
    (hl : ∀ (h1 h2 h3 h4 h5 h6 : Int) (t1 t2 t3 t4 t5 t6 : Tok) (v1 v2 v3 v4 v5 v6 : Value), getL name [⟨h1, .str (Str.ofString "values") t1, v1⟩, ⟨h2, .str (Str.ofString "limit") t2, v2⟩, ⟨h3, .str (Str.ofString "refused") t3, v3⟩, ⟨h4, .str (Str.ofString "width") t4, v4⟩, ⟨h5, .str (Str.ofString "steps") t5, v5⟩, ⟨h6, .str (Str.ofString "log") t6, v6⟩] = some none)
    (h : Q (.ref f, [.ref x]) s) : wpAny (model prog w) A (getMethod (.ref x) name pl) Q E s := by
  cases hh with
  | mk hx_ rf_ vd_ vals_ log_ n1 n2 n3 n4 n5 n6 o1 o2 o3 lo vz =>
    exact method_inst F X₀ (InstAt.of_news N (hsub _ (List.mem_append_right _ hx_)) (hsub _ (List.mem_append_left _ (.head _)))) hg hf ht (hl _ _ _ _ _ _ _ _ _ _ _ _ _ _ _ _ _ _) h
theorem notin_Kt {Q : Value → Shared → Prop} {a n : Nat} {y : Str} {u : Tok} {od : Option Addr} {sl : Array (Option Value)} {items : Array Value} {ys : List Str} {b : Bool} (F : Fr h₀ L s.heap m) (X₀ : K.In h₀) (e : K.lookup a = some ⟨.type "tuple", od, .seq items n, sl⟩) (hi : StrsAre items.toList ys) (hb : (ys.any (· == y)) = b)
    (h : Q (.bool (!b)) s) : wpAny (model prog w) A (compareOp .NotIn (.str y u) (.ref a)) Q E s := notin_tuple_strs ⟨_, F.keep _ _ (X₀ _ _ e), rfl, _, rfl⟩ hi (by rw [hb]; exact h)
theorem in_Kt {Q : Value → Shared → Prop} {a n : Nat} {y : Str} {u : Tok} {od : Option Addr} {sl : Array (Option Value)} {items : Array Value} {ys : List Str} {b : Bool} (F : Fr h₀ L s.heap m) (X₀ : K.In h₀) (e : K.lookup a = some ⟨.type "tuple", od, .seq items n, sl⟩) (hi : StrsAre items.toList ys) (hb : (ys.any (· == y)) = b)
    (h : Q (.bool b) s) : wpAny (model prog w) A (compareOp .In (.str y u) (.ref a)) Q E s := in_tuple_strs ⟨_, F.keep _ _ (X₀ _ _ e), rfl, _, rfl⟩ hi (by rw [hb]; exact h)
theorem in_tup_drop {Q : Value → Shared → Prop} {a n : Nat} {y : Str} {u : Tok} {items : Array Value} {ys : List Str} {b : Bool} (N : News h₀ L s.heap ((a, { cls := .type "tuple", data := .seq items n }) :: news)) (hi : StrsAre items.toList ys) (hb : (ys.any (· == y)) = b)
    (h : News h₀ L s.heap news → Q (.bool b) s) : wpAny (model prog w) A (compareOp .In (.str y u) (.ref a)) Q E s := in_tuple_strs (News.isTup N (.head _)) hi (by rw [hb]; exact h (News.sub N fun q hq => .tail _ hq))
theorem tup_i0 {value slice : PySem.Expr} {t : Addr} {r : List Value} {u : Tok} {x : Value} {Q : Value → Shared → Prop} (ht : IsTup s.heap t (x :: r).toArray) (h : Q x s)
    (hs : subscripted slice false (.ref t) (.int 0 u) = operate [.ref t, .int 0 u] (getItem (.ref t) (.int 0 u))) (hg : ∀ r, letTemporaryGo value (.ref t) r = pure ()) :
    wpAny (model prog w) A (subscriptTail value slice (.ref t) (.int 0 u)) Q E s :=
  item_tupleL ht (by decide) (by decide) (j := 0) (by simp [seqIndex?]) rfl h hs hg
theorem tup_i1 {value slice : PySem.Expr} {t : Addr} {r : List Value} {u : Tok} {x y : Value} {Q : Value → Shared → Prop} (ht : IsTup s.heap t (y :: x :: r).toArray) (h : Q x s)
    (hs : subscripted slice false (.ref t) (.int 1 u) = operate [.ref t, .int 1 u] (getItem (.ref t) (.int 1 u))) (hg : ∀ r, letTemporaryGo value (.ref t) r = pure ()) :
    wpAny (model prog w) A (subscriptTail value slice (.ref t) (.int 1 u)) Q E s :=
  item_tupleL ht (by decide) (by decide) (j := 1) (by simp [seqIndex?]; omega) rfl h hs hg
theorem tup_i2 {value slice : PySem.Expr} {t : Addr} {r : List Value} {u : Tok} {x y z : Value} {Q : Value → Shared → Prop} (ht : IsTup s.heap t (y :: z :: x :: r).toArray) (h : Q x s)
    (hs : subscripted slice false (.ref t) (.int 2 u) = operate [.ref t, .int 2 u] (getItem (.ref t) (.int 2 u))) (hg : ∀ r, letTemporaryGo value (.ref t) r = pure ()) :
    wpAny (model prog w) A (subscriptTail value slice (.ref t) (.int 2 u)) Q E s :=
  item_tupleL ht (by decide) (by decide) (j := 2) (by simp [seqIndex?]; omega) rfl h hs hg
end
noncomputable def valD (l : List (Str × Dv)) (k : Str) : Option Dv := (l.find? fun p => decide (p.1 = k)).map (·.2)
noncomputable def endOf (nd : Nd) (sub : Str) (k : Nat) (H : HS) : Option Nat := match nd with
  | .len n => if k + n ≤ sub.length then some (k + n) else none
  | .notanyD nm => match valD H.vals nm with
    | some (.s x) => if k < sub.length ∧ (Builtin.Str.occurrences x (Txt.item sub (k : Int)) 0 x.length 1).isEmpty = true then some (k + 1) else none
    | _ => none
  | _ => none
noncomputable def adv (i : It) (rest : List It) (k : Nat) (sub : Str) (pile : List (List It × Nat)) (H : HS) : Option (List It × Nat) × List (List It × Nat) × HS := match i with
  | .endNow nm b => (some (rest, k), pile, H.assign nm (.s (Txt.slice sub (some (b : Int)) (some (k : Int)))))
  | .nd x => match x with
    | .cat a b => (some (.nd a :: .nd b :: rest, k), pile, H)
    | .now a nm => (some (.nd a :: .endNow nm k :: rest, k), pile, H)
    | .cursor nm => (some (rest, k), pile, H.assign nm (.i (k : Int)))
    | .fail => (none, pile, H)
    | x => ((endOf x sub k H).map fun e => (rest, e), pile, H)
theorem wayOut_yes {im : Led} {nd : Nd} {sub : Str} {k : Nat} {H : HS} {a : Addr} {u v : Value} {E : Int} {t : Tok} {n : Nat} {rest : List It} (hm : (a, tup #[u, .int E t, v] n) ∈ im) (hu : ChainIn im u rest) (hv : NilIn im v) (he : ∃ e : Nat, endOf nd sub k H = some e ∧ E = (e : Int)) :
    WayOut im (.ref a) ((endOf nd sub k H).map fun e => (rest, e)) := by
  obtain ⟨e, h1, rfl⟩ := he
  rw [h1]
  exact .some (.mk hm hu hv)
theorem wayOut_no {im : Led} {nd : Nd} {sub : Str} {k : Nat} {H : HS} {rest : List It} (he : endOf nd sub k H = Option.none) : WayOut im .none ((endOf nd sub k H).map fun e => (rest, e)) := by
  rw [he]
  exact .none
theorem advEnd2 {prog : Program} {w : World} {im im' mu' fr : Led} {x hx vd lg pl D : Addr} {pile : List (List It × Nat)} {H' : HS} {its : List Value} {n n' : Nat} {rv nv : Value} {rest : List It} {k : Nat} {t : Tok}
    (hh : HostIn prog w im' x hx vd lg mu' H') (hsub : ∀ q ∈ im, q ∈ im') (hs : Sep ((pl, listOf its.toArray n') :: fr) im') (hE : AllLt D (mu' ++ (im' ++ ((pl, listOf its.toArray n') :: fr)))) (hp : PileIn im its pile) (hr : ChainIn im rv rest) (hnv : NilIn im nv) :
    AdvPost prog w im fr x hx vd lg pl (some (rest, k)) pile H' (.ref D) ((D, tup #[rv, .int (k : Int) t, nv] n) :: (mu' ++ (im' ++ ((pl, listOf its.toArray n') :: fr)))) := by
  have hD : pl < D := (allLt_app (allLt_app hE)).1
  refine ⟨mu', (D, tup #[rv, .int (k : Int) t, nv] n) :: im', its, n', ?_, fun q hq => .tail _ (hsub q hq), Off.up hD (hs _ (.head _)), ?_, hp.mono fun q hq => .tail _ (hsub q hq), hh.grow hE, .some (.mk (.head _) (hr.mono fun q hq => .tail _ (hsub q hq)) (hnv.mono fun q hq => .tail _ (hsub q hq)))⟩
  · intro q hq
    simp only [List.mem_cons, List.mem_append] at hq ⊢
    rcases hq with h | h | (h | h) | h <;> simp [h]
  · exact Sep.up (allLt_app (allLt_app hE)).2 fun f hf => hs f (.tail _ hf)
noncomputable def supp (i : It) (H : HS) : Bool := match i with
  | .endNow _ _ => true
  | .nd x => match x with
    | .cat _ _ => true
    | .now _ _ => true
    | .cursor _ => true
    | .fail => true
    | .len _ => true
    | .notanyD nm => (match valD H.vals nm with
      | some (.s x) => decide (0 < x.length) && decide (x.length ≤ 1000)
      | _ => false)
noncomputable def go (sub : Str) : Nat → Option (List It × Nat) → List (List It × Nat) → HS → Option (Option Nat × HS)
  | 0, _, _, _ => none
  | n + 1, c, pile, H => match c with
    | none => match pile with
      | [] => some (none, H)
      | p :: ps => if ps.length ≤ 2000 then go sub n (some p) ps H else none
    | some (ch, k) => match ch with
      | [] => some (some k, H)
      | i :: r => if supp i H = true ∧ k ≤ 1000 ∧ H.steps + 1 ≤ 9999 ∧ H.log.length ≤ 9999 ∧ pile.length ≤ 1000 then go sub n (adv i r k sub pile H.step).1 (adv i r k sub pile H.step).2.1 (adv i r k sub pile H.step).2.2 else none
inductive FoundOut (im : Led) : Value → Option Nat → Prop
  | none : FoundOut im .none .none
  | some {a l : Addr} {k n n' : Nat} {t : Tok} : (a, tup #[.int (k : Int) t, .ref l] n) ∈ im → (l, listOf #[] n') ∈ im → FoundOut im (.ref a) (.some k)
noncomputable def TriedPost (prog : Program) (w : World) (im fr : Led) (x hx vd lg : Addr) (res : Option Nat) (H' : HS) (r : Value) (news' : Led) : Prop :=
  ∃ mu' im', (∀ q ∈ mu' ++ (im' ++ fr), q ∈ news') ∧ (∀ q ∈ im, q ∈ im') ∧ Sep fr im' ∧ HostIn prog w im' x hx vd lg mu' H' ∧ FoundOut im' r res
noncomputable def Stop (P : Prop) : Prop := P
theorem stop_intro {P : Prop} (h : Stop P) : P := h
theorem Fr.known3 {h₀ h : Heap} {L : Addr} {m : Str → Option Value} {a b c : Str} {u v z : Value} (F : Fr h₀ L h m) (e1 : m a = some u) (e2 : m b = some v) (e3 : m c = some z) :
    Fr h₀ L h (fun y => if y = a then some u else if y = b then some v else if y = c then some z else m y) := by
  have : (fun y => if y = a then some u else if y = b then some v else if y = c then some z else m y) = m := by
    funext y
    show (if y = a then some u else if y = b then some v else if y = c then some z else m y) = m y
    split
    · next h => rw [h, e1]
    · split
      · next h => rw [h, e2]
      · split
        · next h => rw [h, e3]
        · rfl
  rw [this]; exact F
noncomputable def JO (prog : Program) (w : World) (im0 fr : Led) (x hx vd lg pl : Addr) (sub : Str) (t1 : Tok) (res : Option Nat) (H' : HS) (n : Nat) (m : Str → Option Value) (news : Led) : Prop :=
  ∃ mu im its c pile H, news = (pl, listOf its.toArray c) :: (mu ++ (im ++ fr)) ∧ (∀ q ∈ im0, q ∈ im) ∧ Off pl im ∧ Sep fr im ∧ PileIn im its pile ∧ HostIn prog w im x hx vd lg mu H ∧ go sub n none pile H = some (res, H') ∧
    m (Str.ofString "pile") = some (.ref pl) ∧ m (Str.ofString "subject") = some (.str sub t1) ∧ m (Str.ofString "host") = some (.ref x)
noncomputable def JI (N0 : Nat) (prog : Program) (w : World) (im0 fr : Led) (x hx vd lg pl : Addr) (sub : Str) (t1 : Tok) (res : Option Nat) (H' : HS) (n : Nat) (m : Str → Option Value) (news : Led) : Prop :=
  n ≤ N0 ∧ ∃ mu im its c pile H ch k cv nv t, news = (pl, listOf its.toArray c) :: (mu ++ (im ++ fr)) ∧ (∀ q ∈ im0, q ∈ im) ∧ Off pl im ∧ Sep fr im ∧ PileIn im its pile ∧ HostIn prog w im x hx vd lg mu H ∧ go sub n (some (ch, k)) pile H = some (res, H') ∧ ChainIn im cv ch ∧ NilIn im nv ∧
    m (Str.ofString "pile") = some (.ref pl) ∧ m (Str.ofString "subject") = some (.str sub t1) ∧ m (Str.ofString "host") = some (.ref x) ∧ m (Str.ofString "chain") = some cv ∧ m (Str.ofString "at") = some (.int (k : Int) t) ∧ m (Str.ofString "named") = some nv
theorem Sep.cons {fr im : Led} {a : Addr} {o : Obj} (h : Off a im) (H : Sep fr im) : Sep ((a, o) :: fr) im := fun f hf => by
  rcases List.mem_cons.mp hf with rfl | hf
  · exact h
  · exact H f hf
theorem SepH.cons {fr : Led} {a hx vd lg : Addr} {o : Obj} (h : a ≠ hx ∧ a ≠ vd ∧ a ≠ lg) (H : SepH fr hx vd lg) : SepH ((a, o) :: fr) hx vd lg := fun f hf => by
  rcases List.mem_cons.mp hf with rfl | hf
  · exact h
  · exact H f hf
theorem go_pop {sub : Str} {n : Nat} {p : List It × Nat} {ps : List (List It × Nat)} {H H' : HS} {res : Option Nat} (h : go sub n none (p :: ps) H = some (res, H')) : ∃ n', n = n' + 1 ∧ ps.length ≤ 2000 ∧ go sub n' (some p) ps H = some (res, H') := by
  cases n with
  | zero => cases h
  | succ n =>
    unfold go at h
    dsimp only at h
    split at h
    · next hz => exact ⟨n, rfl, hz, h⟩
    · cases h
theorem go_end {sub : Str} {n : Nat} {H H' : HS} {res : Option Nat} (h : go sub n none [] H = some (res, H')) : res = none ∧ H' = H := by
  cases n with
  | zero => cases h
  | succ n =>
    unfold go at h
    cases h
    exact ⟨rfl, rfl⟩
theorem go_done {sub : Str} {n k : Nat} {pile : List (List It × Nat)} {H H' : HS} {res : Option Nat} (h : go sub n (some ([], k)) pile H = some (res, H')) : res = some k ∧ H' = H := by
  cases n with
  | zero => cases h
  | succ n =>
    unfold go at h
    cases h
    exact ⟨rfl, rfl⟩
theorem go_step {sub : Str} {n k : Nat} {i : It} {r : List It} {pile : List (List It × Nat)} {H H' : HS} {res : Option Nat} (h : go sub n (some (i :: r, k)) pile H = some (res, H')) :
    ∃ n', n = n' + 1 ∧ supp i H = true ∧ k ≤ 1000 ∧ H.steps + 1 ≤ 9999 ∧ H.log.length ≤ 9999 ∧ pile.length ≤ 1000 ∧ go sub n' (adv i r k sub pile H.step).1 (adv i r k sub pile H.step).2.1 (adv i r k sub pile H.step).2.2 = some (res, H') := by
  cases n with
  | zero => cases h
  | succ n =>
    unfold go at h
    dsimp only at h
    split at h
    · next hz => exact ⟨n, rfl, hz.1, hz.2.1, hz.2.2.1, hz.2.2.2.1, hz.2.2.2.2, h⟩
    · cases h
theorem last_snoc (v : Value) : ∀ l : List Value, kl_last (l ++ [v]) = some (l, v)
  | [] => rfl
  | x :: r => by
    show (match kl_last (r ++ [v]) with | some (p, y) => some (x :: p, y) | none => some ([], x)) = _
    rw [last_snoc v r]
theorem len_led {prog : Program} {w : World} {A : Around} {E : Value → Shared → Prop} {s : Shared} {h₀ : Heap} {L a n : Nat} {news : Led} {its : List Value} {Q : Value → Shared → Prop} (N : News h₀ L s.heap news) (hm : (a, listOf its.toArray n) ∈ news) (hz : its.length ≤ 100000)
    (h : Q (.int its.length (s.toks + 1)) { s with toks := s.toks + 1 + 1 }) : wpAny (model prog w) A (call (.builtin "len") [.ref a]) Q E s :=
  len_list (News.isList N hm) (by rw [List.size_toArray]; omega) (by rw [List.size_toArray]; exact h)
theorem pop_led {prog : Program} {w : World} {A : Around} {E : Value → Shared → Prop} {s : Shared} {h₀ : Heap} {L D n : Nat} {m : Str → Option Value} {news news' : Led} {l : List Value} {v : Value} {Q : Value → Shared → Prop} (F : Fr h₀ L s.heap m) (N : News h₀ L s.heap news)
    (U : Upd D (listOf (l ++ [v]).toArray n) (listOf l.toArray (n + 1)) news news') (hz : l.length ≤ 100000) (h : ∀ h', Fr h₀ L h' m → News h₀ L h' news' → Q v { s with heap := h' }) : wpAny (model prog w) A (call (.builtin "list.pop") [.ref D]) Q E s :=
  kl_pop F N (last_snoc v l) U (by rw [sizeLine_eq]; show (l ++ [v]).length ≤ _; rw [List.length_append]; simp; omega) h
theorem Fr.known6 {h₀ h : Heap} {L : Addr} {m : Str → Option Value} {a b c a' b' c' : Str} {u v z u' v' z' : Value} (F : Fr h₀ L h m) (e1 : m a = some u) (e2 : m b = some v) (e3 : m c = some z) (e4 : m a' = some u') (e5 : m b' = some v') (e6 : m c' = some z') :
    Fr h₀ L h (fun y => if y = a then some u else if y = b then some v else if y = c then some z else if y = a' then some u' else if y = b' then some v' else if y = c' then some z' else m y) := by
  have : (fun y => if y = a then some u else if y = b then some v else if y = c then some z else if y = a' then some u' else if y = b' then some v' else if y = c' then some z' else m y) = m := by
    funext y
    show (if y = a then some u else if y = b then some v else if y = c then some z else if y = a' then some u' else if y = b' then some v' else if y = c' then some z' else m y) = m y
    repeat' split
    · next h => rw [h, e1]
    · next h => rw [h, e2]
    · next h => rw [h, e3]
    · next h => rw [h, e4]
    · next h => rw [h, e5]
    · next h => rw [h, e6]
    · rfl
  rw [this]; exact F
theorem eq_tup_str {prog : Program} {w : World} {A : Around} {E : Value → Shared → Prop} {s : Shared} {h₀ : Heap} {L a n : Nat} {news : Led} {its : Array Value} {y : Str} {u : Tok} {Q : Value → Shared → Prop} (N : News h₀ L s.heap news) (hm : (a, tup its n) ∈ news) (hu : A.units < cLine)
    (h : Q (.bool false) s) : wpAny (model prog w) A (compareOp .Eq (.ref a) (.str y u)) Q E s :=
  cmp_ofEq (PySem.SeqAt.RcAt.tuple_str y u (items := its) (News.isTup N hm) hu prog w E Q h)
noncomputable def OverA (l : Led) : Led → Prop
  | [] => True
  | p :: r => AllLt p.1 l ∧ OverA l r
theorem HostIn.growsA {prog : Program} {w : World} {im im0 mu : Led} {x hx vd lg : Addr} {H : HS} (h : HostIn prog w im x hx vd lg mu H) : ∀ {e : Led}, OverA (mu ++ im0) e → HostIn prog w (e ++ im) x hx vd lg mu H
  | [], _ => h
  | (_, _) :: _, ⟨b, c⟩ => (HostIn.growsA h c).grow b
theorem OverA.sep {mu im im0 fr : Led} (ho : Sep fr im) : ∀ {e : Led}, OverA (mu ++ (im0 ++ fr)) e → Sep fr (e ++ im)
  | [], _ => ho
  | (_, _) :: _, ⟨b, c⟩ => (OverA.sep ho c).up (allLt_app (allLt_app b))
theorem mem_shuf2 {a : Addr × Obj} {mu im fr e : Led} : ∀ q ∈ a :: (mu ++ ((e ++ im) ++ fr)), q ∈ a :: (e ++ (mu ++ (im ++ fr))) := by
  intro q hq
  simp only [List.mem_cons, List.mem_append] at hq ⊢
  rcases hq with h | h | (h | h) | h <;> simp [h]
theorem mem_shuf3 {a : Addr × Obj} {mu im fr e : Led} : ∀ q ∈ mu ++ ((e ++ im) ++ fr), q ∈ e ++ (a :: (mu ++ (im ++ fr))) := by
  intro q hq
  simp only [List.mem_cons, List.mem_append] at hq ⊢
  rcases hq with h | (h | h) | h <;> simp [h]
section
variable {h₀ : Heap} {L : Addr} {s s₃ : Shared} {J : Nat → (Str → Option Value) → Led → Prop} {Q : Flow → Shared → Prop} {n : Nat}
theorem ws_brk (h : Q .next s₃) : WhileStep2 h₀ L s J Q n .brk s₃ := h
theorem ws_ret {v : Value} (h : Q (.ret v) s₃) : WhileStep2 h₀ L s J Q n (.ret v) s₃ := h
theorem ws_next {h' : Heap} {tk : Nat} {m₂ : Str → Option Value} {news₂ : Led} {n' : Nat} (F : Fr h₀ L h' m₂) (N : News h₀ L h' news₂) (hn : n' < n) (hJ : J n' m₂ news₂) : WhileStep2 h₀ L s J Q n .next { s with heap := h', toks := tk } := ⟨h', tk, m₂, news₂, n', rfl, F, N, hn, hJ⟩
end
inductive FoundIn (im : Led) : Value → Option (Nat × Nat) → Prop
  | none : FoundIn im .none .none
  | some {a l : Addr} {b k n n' : Nat} {t t' : Tok} : (a, tup #[.int (b : Int) t, .int (k : Int) t', .ref l] n) ∈ im → (l, listOf #[] n') ∈ im → FoundIn im (.ref a) (.some (b, k))
noncomputable def MatchPost (prog : Program) (w : World) (im fr : Led) (x hx vd lg : Addr) (res : Option (Nat × Nat)) (H' : HS) (r : Value) (news' : Led) : Prop :=
  ∃ mu' im', (∀ q ∈ mu' ++ (im' ++ fr), q ∈ news') ∧ (∀ q ∈ im, q ∈ im') ∧ Sep fr im' ∧ HostIn prog w im' x hx vd lg mu' H' ∧ FoundIn im' r res
noncomputable def mloop (sub : Str) (nd : Nd) (fuel : Nat) : Nat → Nat → HS → Option (Option (Nat × Nat) × HS)
  | 0, _, H => some (none, H)
  | c + 1, b, H => match go sub fuel (some ([.nd nd], b)) [] H with
    | none => none
    | some (res, H') => match res with
      | none => mloop sub nd fuel c (b + 1) H'
      | some k => some (some (b, k), H')
theorem mem_one {a : Addr × Obj} {mu im fr : Led} : ∀ q ∈ mu ++ ((a :: im) ++ fr), q ∈ a :: (mu ++ (im ++ fr)) := by
  intro q hq
  simp only [List.mem_cons, List.mem_append] at hq ⊢
  rcases hq with h | (h | h) | h <;> simp [h]
noncomputable def RStep (h₀ : Heap) (L I : Addr) (ro : Obj) (J : (Str → Option Value) → Led → Prop) (s : Shared) (Q : Flow → Shared → Prop) (f : Flow) (s₂ : Shared) : Prop :=
  match f with
  | .ret v => Q (.ret v) s₂
  | .brk => Q .next s₂
  | _ => ∃ h' tk m' news', s₂ = { s with heap := h', toks := tk } ∧ Fr h₀ L h' m' ∧ News h₀ L h' ((I, ro) :: news') ∧ Off I news' ∧ J m' news'
section
variable {h₀ : Heap} {L I : Addr} {ro : Obj} {J : (Str → Option Value) → Led → Prop} {s s₂ : Shared} {Q : Flow → Shared → Prop}
theorem rs_ret {v : Value} (h : Q (.ret v) s₂) : RStep h₀ L I ro J s Q (.ret v) s₂ := h
theorem rs_brk (h : Q .next s₂) : RStep h₀ L I ro J s Q .brk s₂ := h
theorem rs_next {h' : Heap} {tk : Nat} {m' : Str → Option Value} {news' : Led} (F : Fr h₀ L h' m') (N : News h₀ L h' ((I, ro) :: news')) (ho : Off I news') (hj : J m' news') : RStep h₀ L I ro J s Q .next { s with heap := h', toks := tk } := ⟨h', tk, m', news', rfl, F, N, ho, hj⟩
end
section
variable {prog : Program} {w : World} {A : Around} {E : Value → Shared → Prop} {s : Shared} {env : Env} {h₀ : Heap} {x : Str} {body : List Stmt} {Q : Flow → Shared → Prop}
theorem range_loop {r : Addr} {a b : Int} {t u v : Tok} {m₀ : Str → Option Value} {news news₀ : Led} (J : Nat → (Str → Option Value) → Led → Prop)
    (hh : A.handled = none) (F : Fr h₀ env.locals s.heap m₀) (N : News h₀ env.locals s.heap news) (hr : (r, ({ cls := .type "range", dict := none, data := .fields #[.int a t, .int b u, .int 1 v], slots := #[] } : Obj)) ∈ news)
    (hsm : Builtin.Range.small a b 1 = true) (cnt : Nat) (hc : Builtin.Range.rangeSize a b 1 = (cnt : Int)) (hsub : ∀ q ∈ news₀, q ∈ news) (hj : J 0 m₀ news₀)
    (turn : ∀ i t m₁ news₁ I ro h tk, i < cnt → Off I news₁ → J i m₁ news₁ → Fr h₀ env.locals h (fun y => if y = x then some (.int (a + (i : Int)) t) else m₁ y) → News h₀ env.locals h ((I, ro) :: news₁) →
      wpAny (model prog w) A (execs body env) (RStep h₀ env.locals I ro (J (i + 1)) { s with heap := h, toks := tk } Q) E { s with heap := h, toks := tk })
    (done : ∀ m₁ news₁ h tk, J cnt m₁ news₁ → Fr h₀ env.locals h m₁ → News h₀ env.locals h news₁ → Q .next { s with heap := h, toks := tk }) :
    wpAny (model prog w) A (pyIter (.ref r)) (fun it s₂ => LoopAtV prog w A h₀ env x body Q E it s₂) E s := by
  refine wpAny_pyIter_range (N _ hr).1 hsm ?_
  have W := Walks.range (prog := prog) (w := w) hh s.heap.objs.size a 1 cnt
  have N₀ := News.sub N hsub
  refine ⟨_, _, _, cnt, _, _, m₀, news₀, J, rfl, W, ?_, ?_, ?_, ?_, F.push _, (fun p hp => ⟨Heap.get?_push_of_some _ (N₀ p hp).1, (N₀ p hp).2⟩), hj, ?_, ?_⟩
  · intro hm
    exact absurd F.ns.lt (List.mem_singleton.mp hm ▸ Nat.lt_irrefl _)
  · intro b hb
    rw [List.mem_singleton.mp hb]
    exact next_is_new F
  · intro p hp hI
    exact absurd (Heap.lt_size (N₀ p hp).1) ((List.mem_singleton.mp hI) ▸ Nat.lt_irrefl _)
  · show IsRangeIter _ _ _ _ _
    have := Heap.get?_push_size (h := s.heap) (o := { cls := .type "range_iterator", data := .fields #[rawInt a, rawInt (Builtin.Range.rangeSize a b 1), rawInt 1] }) rfl
    have e1 : a + ((0 : Nat) : Int) * 1 = a := by omega
    have e2 : (cnt : Int) - ((0 : Nat) : Int) = cnt := by omega
    rw [e1, e2, ← hc]
    exact this
  · rintro i v m₁ news₁ s₁ own ⟨hh', tk', rfl⟩ hi ⟨ti, rfl⟩ hJ hnw hown hown' hall hst F₁ N₁
    obtain ⟨ro, hI⟩ : ∃ ro, hh'.get? s.heap.objs.size = some ro := ⟨_, hst⟩
    have hmem := hall s.heap.objs.size (List.mem_singleton.mpr rfl) (next_is_new F) _ hI
    rw [Int.mul_one] at F₁
    have N₂ : News h₀ env.locals hh' ((s.heap.objs.size, ro) :: news₁) := News.sub N₁ fun q hq => by
      rcases List.mem_cons.mp hq with rfl | hq
      · exact List.mem_append_left _ hmem
      · exact List.mem_append_right _ hq
    have ho : Off s.heap.objs.size news₁ := fun q hq e => hnw q hq (List.mem_singleton.mpr e)
    refine wpAny_mono (turn i ti m₁ news₁ _ ro hh' tk' hi ho hJ F₁ N₂) (fun f s₂ p => ?_) fun _ _ e => e
    have fin : (∃ h' tk m' news', s₂ = { s with heap := h', toks := tk } ∧ Fr h₀ env.locals h' m' ∧ News h₀ env.locals h' ((s.heap.objs.size, ro) :: news') ∧ Off s.heap.objs.size news' ∧ J (i + 1) m' news') →
        LoopStepU h₀ env.locals [s.heap.objs.size] own (J (i + 1)) { s with heap := hh', toks := tk' } .next s₂ := by
      rintro ⟨h', tk, m', news', rfl, F', N', ho', hj'⟩
      refine ⟨rfl, h', tk, m', news', rfl, F', News.sub N' fun q hq => ?_, fun q hq hI => ho' q hq (List.mem_singleton.mp hI), hj'⟩
      rcases List.mem_append.mp hq with hq | hq
      · have e1 := List.mem_singleton.mp (hown q hq)
        have e2 := hown' q hq
        rw [e1, hI] at e2
        have : q = (s.heap.objs.size, ro) := Prod.ext e1 (Option.some.inj e2).symm
        rw [this]; exact .head _
      · exact .tail _ hq
    cases f with
    | ret v => exact .ret p
    | brk => exact .brk p
    | next => exact .next (fin p)
    | cont => exact .cont (fin p)
  · rintro h' tk m' news' F' N' _ hJ
    exact done m' news' h' tk hJ F' N'
end
theorem known3_eq {m : Str → Option Value} {a b c : Str} {u v z : Value} (e1 : m a = some u) (e2 : m b = some v) (e3 : m c = some z) :
    m = (fun y => if y = a then some u else if y = b then some v else if y = c then some z else m y) := by
  funext y
  show m y = (if y = a then some u else if y = b then some v else if y = c then some z else m y)
  repeat' split
  · next h => rw [h, e1]
  · next h => rw [h, e2]
  · next h => rw [h, e3]
  · rfl
noncomputable def JM (prog : Program) (w : World) (im0 fr : Led) (x hx vd lg : Addr) (nv : Value) (sub : Str) (t1 : Tok) (nd : Nd) (fuel : Nat) (res : Option (Nat × Nat)) (H' : HS) (cnt i : Nat) (m : Str → Option Value) (news : Led) : Prop :=
  ∃ mu im H, news = mu ++ (im ++ fr) ∧ (∀ q ∈ im0, q ∈ im) ∧ Sep fr im ∧ HostIn prog w im x hx vd lg mu H ∧ i ≤ cnt ∧ mloop sub nd fuel (cnt - i) i H = some (res, H') ∧
    m (Str.ofString "node") = some nv ∧ m (Str.ofString "subject") = some (.str sub t1) ∧ m (Str.ofString "host") = some (.ref x)
theorem HostIn.addrs {prog : Program} {w : World} {im mu l : Led} {x hx vd lg I : Addr} {H : HS} (h : HostIn prog w im x hx vd lg mu H) (ho : Off I (mu ++ l)) : I ≠ hx ∧ I ≠ vd ∧ I ≠ lg := by
  cases h with
  | mk => exact ⟨fun e => ho _ (.head _) e.symm, fun e => ho _ (.tail _ (.head _)) e.symm, fun e => ho _ (.tail _ (.tail _ (.head _))) e.symm⟩
theorem mloop_turn {sub : Str} {nd : Nd} {fuel c b : Nat} {H H' : HS} {res : Option (Nat × Nat)} (h : mloop sub nd fuel (c + 1) b H = some (res, H')) :
    ∃ r1 H1, go sub fuel (some ([.nd nd], b)) [] H = some (r1, H1) ∧ ((r1 = none ∧ mloop sub nd fuel c (b + 1) H1 = some (res, H')) ∨ ∃ k, r1 = some k ∧ res = some (b, k) ∧ H' = H1) := by
  unfold mloop at h
  split at h
  · cases h
  · next r1 H1 e =>
    refine ⟨r1, H1, e, ?_⟩
    split at h
    · exact .inl ⟨rfl, h⟩
    · cases h; exact .inr ⟨_, rfl, rfl, rfl⟩
theorem range1_N {prog : Program} {w : World} {A : Around} {E : Value → Shared → Prop} {s : Shared} {h₀ : Heap} {L : Addr} {m : Str → Option Value} {news : Led} {n : Int} {t : Tok} {Q : Value → Shared → Prop} (F : Fr h₀ L s.heap m) (N : News h₀ L s.heap news)
    (h : ∀ r h' tk t₁ v₁, Fr h₀ L h' m → News h₀ L h' ((r, ({ cls := .type "range", dict := none, data := .fields #[.int 0 t₁, .int n t, .int 1 v₁], slots := #[] } : Obj)) :: news) → (∀ p ∈ news, p.1 < r) → Q (.ref r) { s with heap := h', toks := tk }) :
    wpAny (model prog w) A (call (.type "range") [.int n t]) Q E s :=
  call_range_1 (h _ _ _ _ _ (F.push _) (N.push F _) fun p hp => Heap.lt_size (N p hp).1)
section
variable {prog prog' : Program} {w w' : World} {A : Around} {E : Value → Shared → Prop} {s : Shared} {K : Frag} {h₀ : Heap} {L x hx vd lg : Addr} {m : Str → Option Value} {news mu im : Led} {H : HS} {expr : Bool} {f : Addr} {name : Str}
theorem hostA {Q : Value → Shared → Prop} (hh : HostIn prog' w' im x hx vd lg mu H) (F : Fr h₀ L s.heap m) (X₀ : K.In h₀) (N : News h₀ L s.heap news) (hsub : ∀ q ∈ mu ++ im, q ∈ news) (hg : plainGet K 236 name = true) (hhd : hasDictIn K 236 = true)
    (hf : findIn K (.ref 236) name = some (some (.ref f))) (ht : isFn K (.ref f) = true) (hgf : specialIn K (.ref f) "__get__" = some (some (.builtin "function.__get__"))) (htk : takesIn K (.ref f) = some false) (hc : copiedNames.contains name = false)
    (hl : ∀ (h1 h2 h3 h4 h5 h6 : Int) (t1 t2 t3 t4 t5 t6 : Tok) (v1 v2 v3 v4 v5 v6 : Value), getL name [⟨h1, .str (Str.ofString "values") t1, v1⟩, ⟨h2, .str (Str.ofString "limit") t2, v2⟩, ⟨h3, .str (Str.ofString "refused") t3, v3⟩, ⟨h4, .str (Str.ofString "width") t4, v4⟩, ⟨h5, .str (Str.ofString "steps") t5, v5⟩, ⟨h6, .str (Str.ofString "log") t6, v6⟩] = some none)
    (h : ∀ q h', Fr h₀ L h' m → News h₀ L h' ((q, methodObj (.ref f) (.ref x)) :: news) → (∀ p ∈ news, p.1 < q) → Q (.ref q) { s with heap := h', toks := s.toks + 1 }) : wpAny (model prog w) A (getAttr (.ref x) name expr) Q E s := by
  cases hh with
  | mk hx_ rf_ vd_ vals_ log_ n1 n2 n3 n4 n5 n6 o1 o2 o3 lo vz =>
    exact kbm_bound F X₀ N (InstAt.of_news N (hsub _ (List.mem_append_right _ hx_)) (hsub _ (List.mem_append_left _ (.head _)))) hg hhd hf ht hgf htk hc (hl _ _ _ _ _ _ _ _ _ _ _ _ _ _ _ _ _ _) h
end
noncomputable def splice (sub : Str) (b k : Nat) (txt : Str) : Str := Txt.slice sub none (some (b : Int)) ++ txt ++ Txt.slice sub (some (k : Int)) none
noncomputable def TextPost (prog : Program) (w : World) (im fr : Led) (x hx vd lg : Addr) (txt : Str) (H : HS) (r : Value) (news' : Led) : Prop :=
  ∃ mu' im', (∀ q ∈ mu' ++ (im' ++ fr), q ∈ news') ∧ (∀ q ∈ im, q ∈ im') ∧ Sep fr im' ∧ HostIn prog w im' x hx vd lg mu' H ∧ ∃ t, r = .str txt t
inductive StrOut : Value → Option Str → Prop
  | none : StrOut .none .none
  | some {x : Str} {t : Tok} : StrOut (.str x t) (.some x)
noncomputable def RoPost (prog : Program) (w : World) (im fr : Led) (x hx vd lg : Addr) (res : Option Str) (H' : HS) (r : Value) (news' : Led) : Prop :=
  ∃ mu' im', (∀ q ∈ mu' ++ (im' ++ fr), q ∈ news') ∧ (∀ q ∈ im, q ∈ im') ∧ Sep fr im' ∧ HostIn prog w im' x hx vd lg mu' H' ∧ StrOut r res
noncomputable def LStep (h₀ : Heap) (L I ax : Addr) (ro lo : Obj) (J : (Str → Option Value) → Led → Prop) (s : Shared) (Q : Flow → Shared → Prop) (f : Flow) (s₂ : Shared) : Prop :=
  match f with
  | .ret v => Q (.ret v) s₂
  | .brk => Q .next s₂
  | _ => ∃ h' tk m' news', s₂ = { s with heap := h', toks := tk } ∧ Fr h₀ L h' m' ∧ News h₀ L h' ((I, ro) :: (ax, lo) :: news') ∧ Off I news' ∧ J m' news'
section
variable {h₀ : Heap} {L I ax : Addr} {ro lo : Obj} {J : (Str → Option Value) → Led → Prop} {s s₂ : Shared} {Q : Flow → Shared → Prop}
theorem ls_ret {v : Value} (h : Q (.ret v) s₂) : LStep h₀ L I ax ro lo J s Q (.ret v) s₂ := h
theorem ls_next {h' : Heap} {tk : Nat} {m' : Str → Option Value} {news' : Led} (F : Fr h₀ L h' m') (N : News h₀ L h' ((I, ro) :: (ax, lo) :: news')) (ho : Off I news') (hj : J m' news') : LStep h₀ L I ax ro lo J s Q .next { s with heap := h', toks := tk } := ⟨h', tk, m', news', rfl, F, N, ho, hj⟩
end
section
variable {prog : Program} {w : World} {A : Around} {E : Value → Shared → Prop} {s : Shared} {env : Env} {h₀ : Heap} {target : PySem.Expr} {body : List Stmt} {Q : Flow → Shared → Prop}
theorem list_turns {ax n : Nat} {vs : List Value} {m₀ : Str → Option Value} {news news₀ : Led} (J : Nat → (Str → Option Value) → Led → Prop)
    (hh : A.handled = none) (F : Fr h₀ env.locals s.heap m₀) (N : News h₀ env.locals s.heap news) (hm : (ax, listOf vs.toArray n) ∈ news) (hsub : ∀ q ∈ news₀, q ∈ news) (hj : J 0 m₀ news₀)
    (turn : ∀ i v m₁ news₁ I ro h tk, vs[i]? = some v → I ≠ ax → Off I news₁ → J i m₁ news₁ → Fr h₀ env.locals h m₁ → News h₀ env.locals h ((I, ro) :: (ax, listOf vs.toArray n) :: news₁) →
      wpAny (model prog w) A (assign target env v) (fun _ s₃ => wpAny (model prog w) A (execs body env) (LStep h₀ env.locals I ax ro (listOf vs.toArray n) (J (i + 1)) { s with heap := h, toks := tk } Q) E s₃) E { s with heap := h, toks := tk })
    (done : ∀ m₁ news₁ h tk, J vs.length m₁ news₁ → Fr h₀ env.locals h m₁ → News h₀ env.locals h news₁ → Q .next { s with heap := h, toks := tk }) :
    wpAny (model prog w) A (pyIter (.ref ax)) (fun it s₂ => TurnsAt prog w A h₀ env target body Q E it s₂) E s := by
  have hls : s.heap.IsList ax vs.toArray := News.isList N hm
  have hlt : ax < s.heap.objs.size := Heap.lt_size (N _ hm).1
  have hne : ax ≠ s.heap.objs.size := Nat.ne_of_lt hlt
  have hax0 : h₀.get? ax = none := (N _ hm).2.2
  refine wpAny_pyIter_list hls ?_
  have W := Walks.list (prog := prog) (w := w) hh s.heap.objs.size ax hne vs.toArray
  have N₀ := News.sub N hsub
  have W' := KTurns.ofWalks (target := target) W fun i v s Q E st q => letGo_listiter st.1 q
  have hsz : vs.toArray.size = vs.length := by simp
  rw [hsz] at W'
  let J' : Nat → (Str → Option Value) → Led → Prop := fun i m₁ news₁ => J i m₁ news₁
  refine ⟨_, _, _, vs.length, _, _, _, m₀, (ax, listOf vs.toArray n) :: news₀, fun i m₁ l => ∃ l', l = (ax, listOf vs.toArray n) :: l' ∧ J i m₁ l', rfl, W', ?_, ?_, ?_, ⟨⟨_, Heap.get?_push_size _ rfl, rfl, rfl⟩, hls.at fun o e => Heap.get?_push_of_some _ e⟩, F.push _, ?_, ⟨_, rfl, hj⟩, ?_, ?_⟩
  · intro h
    rcases List.mem_cons.mp h with e | h
    · exact absurd F.ns.lt (e ▸ Nat.lt_irrefl _)
    · exact (N _ hm).2.1 (List.mem_singleton.mp h).symm
  · intro b hb
    rw [List.mem_singleton.mp hb]
    exact next_is_new F
  · intro p hp hI
    have e := List.mem_singleton.mp hI
    rcases List.mem_cons.mp hp with rfl | hp
    · exact hne e
    · exact absurd (Heap.lt_size (N₀ p hp).1) (e ▸ Nat.lt_irrefl _)
  · intro p hp
    rcases List.mem_cons.mp hp with rfl | hp
    · exact ⟨Heap.get?_push_of_some _ (N _ hm).1, (N _ hm).2⟩
    · exact ⟨Heap.get?_push_of_some _ (N₀ p hp).1, (N₀ p hp).2⟩
  · rintro i v m₁ news₁ hh' tk' own hi hP ⟨l', rfl, hJ⟩ hnw hown hown' hall hst F₁ N₁
    obtain ⟨ro, hI⟩ : ∃ ro, hh'.get? s.heap.objs.size = some ro := by
      obtain ⟨o, ho, _⟩ := hst.1
      exact ⟨o, ho⟩
    have hmem := hall s.heap.objs.size (List.mem_cons.mpr (.inl rfl)) (next_is_new F) _ hI
    have hv : vs[i]? = some v := by
      have : vs.toArray[i]? = some v := hP
      simpa using this
    have N₂ : News h₀ env.locals hh' ((s.heap.objs.size, ro) :: (ax, listOf vs.toArray n) :: l') := News.sub N₁ fun q hq => by
      rcases List.mem_cons.mp hq with rfl | hq
      · exact List.mem_append_left _ hmem
      · exact List.mem_append_right _ hq
    have ho : Off s.heap.objs.size l' := fun q hq e => hnw q (.tail _ hq) (List.mem_singleton.mpr e)
    refine wpAny_mono (turn i v m₁ l' _ ro hh' tk' hv (Ne.symm hne) ho hJ F₁ N₂) (fun _ s₃ p => wpAny_mono p (fun f s₂ p => ?_) fun _ _ e => e) fun _ _ e => e
    have fin : (∃ h' tk m' news', s₂ = { s with heap := h', toks := tk } ∧ Fr h₀ env.locals h' m' ∧ News h₀ env.locals h' ((s.heap.objs.size, ro) :: (ax, listOf vs.toArray n) :: news') ∧ Off s.heap.objs.size news' ∧ J (i + 1) m' news') →
        LoopStepU h₀ env.locals [s.heap.objs.size] own (fun m₁ l => ∃ l', l = (ax, listOf vs.toArray n) :: l' ∧ J (i + 1) m₁ l') { s with heap := hh', toks := tk' } .next s₂ := by
      rintro ⟨h', tk, m', news', rfl, F', N', ho', hj'⟩
      refine ⟨rfl, h', tk, m', (ax, listOf vs.toArray n) :: news', rfl, F', News.sub N' fun q hq => ?_, fun q hq hI2 => ?_, news', rfl, hj'⟩
      · rcases List.mem_append.mp hq with hq | hq
        · rcases List.mem_cons.mp (hown q hq) with e1 | e1
          · have e2 := hown' q hq
            rw [e1, hI] at e2
            have : q = (s.heap.objs.size, ro) := Prod.ext e1 (Option.some.inj e2).symm
            rw [this]; exact .head _
          · have e1 := List.mem_singleton.mp e1
            have e2 := hown' q hq
            rw [e1, (N₂ _ (.tail _ (.head _))).1] at e2
            have : q = (ax, listOf vs.toArray n) := Prod.ext e1 (Option.some.inj e2).symm
            rw [this]; exact .tail _ (.head _)
        · exact .tail _ hq
      · have e := List.mem_singleton.mp hI2
        rcases List.mem_cons.mp hq with rfl | hq
        · exact hne e
        · exact ho' q hq e
    cases f with
    | ret v => exact .ret p
    | brk => exact .brk p
    | next => exact .next (fin p)
    | cont => exact .cont (fin p)
  · rintro h' tk m' news' F' N' _ ⟨l', rfl, hJ⟩
    exact done m' l' h' tk hJ F' (News.sub N' fun q hq => .tail _ hq)
end
theorem lookup_mem {v : Value} {y : Str} : ∀ {ps : List (Str × Value)}, ps.lookup y = some v → (y, v) ∈ ps
  | [], h => nomatch h
  | (a, b) :: r, h => by
    rw [List.lookup_cons] at h
    by_cases e : (y == a) = true
    · rw [e] at h
      cases h
      rw [beq_iff_eq.mp e]; exact .head _
    · have e' : (y == a) = false := by simpa using e
      rw [e'] at h
      exact .tail _ (lookup_mem h)
theorem knownL {m : Str → Option Value} (ps : List (Str × Value)) (h : ∀ p ∈ ps, m p.1 = some p.2) : m = fun y => match ps.lookup y with | some v => some v | none => m y := by
  funext y
  show m y = match ps.lookup y with | some v => some v | none => m y
  cases e : ps.lookup y with
  | none => rfl
  | some v => exact h _ (lookup_mem e)
theorem allP_nil {α : Type} {P : α → Prop} : ∀ p ∈ ([] : List α), P p := fun _ h => nomatch h
theorem allP_cons {α : Type} {P : α → Prop} {a : α} {l : List α} (h : P a) (H : ∀ p ∈ l, P p) : ∀ p ∈ a :: l, P p := fun p hp => by
  rcases List.mem_cons.mp hp with rfl | hp
  · exact h
  · exact H p hp
noncomputable def roften (nd : Nd) (anch : Bool) (fuel : Nat) (tok : HS → Bool) (txt : HS → Str) : Nat → Nat → Str → HS → Option ((Str × Nat) × HS)
  | 0, many, sub, H => some ((sub, many), H)
  | c + 1, many, sub, H => if sub.length ≤ 1000 then match mloop sub nd fuel (if anch then 1 else sub.length + 1) 0 H with
    | none => none
    | some (res, H') => match res with
      | none => some ((sub, many), H')
      | some r => if tok H' = true ∧ (txt H').length ≤ 1000 then roften nd anch fuel tok txt c (many + 1) (splice sub r.1 r.2 (txt H')) H' else none
    else none
theorem roften_turn {nd : Nd} {anch : Bool} {fuel c many : Nat} {tok : HS → Bool} {txt : HS → Str} {sub : Str} {H H' : HS} {res : Str × Nat} (h : roften nd anch fuel tok txt (c + 1) many sub H = some (res, H')) :
    sub.length ≤ 1000 ∧ ∃ r1 H1, mloop sub nd fuel (if anch then 1 else sub.length + 1) 0 H = some (r1, H1) ∧ ((r1 = none ∧ res = (sub, many) ∧ H' = H1) ∨ ∃ r, r1 = some r ∧ tok H1 = true ∧ (txt H1).length ≤ 1000 ∧ roften nd anch fuel tok txt c (many + 1) (splice sub r.1 r.2 (txt H1)) H1 = some (res, H')) := by
  unfold roften at h
  split at h
  · next hz =>
    refine ⟨hz, ?_⟩
    split at h
    · cases h
    · next r1 H1 e =>
      refine ⟨r1, H1, e, ?_⟩
      split at h
      · cases h; exact .inl ⟨rfl, rfl, rfl⟩
      · next r =>
        split at h
        · next hq => exact .inr ⟨r, rfl, hq.1, hq.2, h⟩
        · cases h
  · cases h
noncomputable def RfPost (prog : Program) (w : World) (im fr : Led) (x hx vd lg : Addr) (res : Str × Nat) (H' : HS) (r : Value) (news' : Led) : Prop :=
  ∃ mu' im', (∀ q ∈ mu' ++ (im' ++ fr), q ∈ news') ∧ (∀ q ∈ im, q ∈ im') ∧ Sep fr im' ∧ HostIn prog w im' x hx vd lg mu' H' ∧ ∃ a n t t', r = .ref a ∧ (a, tup #[.str res.1 t, .int (res.2 : Int) t'] n) ∈ im'
noncomputable def JR (prog : Program) (w : World) (im0 fr : Led) (x hx vd lg tf : Addr) (nv : Value) (nd : Nd) (anch : Bool) (fuel : Nat) (tok : HS → Bool) (txt : HS → Str) (most : Nat) (tm : Tok) (res : Str × Nat) (H' : HS) (n : Nat) (m : Str → Option Value) (news : Led) : Prop :=
  ∃ mu im H sub many t1 t2, news = mu ++ (im ++ fr) ∧ (∀ q ∈ im0, q ∈ im) ∧ Sep fr im ∧ HostIn prog w im x hx vd lg mu H ∧ many + n = most ∧ roften nd anch fuel tok txt n many sub H = some (res, H') ∧
    (∀ p ∈ [(Str.ofString "matcher", Value.ref 397), (Str.ofString "node", nv), (Str.ofString "subject", Value.str sub t1), (Str.ofString "is_anchored", Value.bool anch), (Str.ofString "host", Value.ref x), (Str.ofString "text_of", Value.ref tf), (Str.ofString "most", Value.int (most : Int) tm), (Str.ofString "many", Value.int (many : Int) t2)], m p.1 = some p.2)
theorem Fr.tok {h₀ h : Heap} {L : Addr} {m : Str → Option Value} (_F : Fr h₀ L h m) (x : Str) (v : Tok → Value) (e : ∃ t, m x = some (v t)) : ∃ t, m x = some (v t) := e
end Mine
end
section
open PySem PySem.Spec PySem.Calls PySem.W PyProof.Rows
namespace Mine
noncomputable abbrev lit {α : Type} (b : α) {c : α} (_ : c = b) : α := b
noncomputable def fC (s : Stmt) : Scope := match s with | .FunctionDef (scope := b) .. => b | _ => default
noncomputable def wB (s : Stmt) : List Stmt := match s with | .While (body := b) .. => b | _ => []
noncomputable abbrev lawTop (dp un : Nat) (gd : Option (List Code)) (outer : List Env) : Around := { handled := none, depth := dp, frames := some outer, guards := gd, units := un }
theorem valsIs_at {k : Str} {d : Dv} : ∀ {l : List (Str × Value)} {r : List (Str × Dv)}, ValsIs l r → valD r k = some d → ∃ v, PySem.valueAt l k = some v ∧ DvIs v d
  | _, _, .nil, h => by cases h
  | _, _, .cons (k := k') (v := v) (d := d') (l := l) (r := r) a b, h => by
    unfold valD at h
    unfold PySem.valueAt
    rw [List.find?_cons] at h ⊢
    by_cases e : k' = k
    · simp only [e, decide_true, Option.map_some] at h ⊢
      cases h
      exact ⟨v, rfl, a⟩
    · simp only [e, decide_false] at h ⊢
      exact valsIs_at b h
theorem valsIs_str {k a : Str} {l : List (Str × Value)} {r : List (Str × Dv)} (H : ValsIs l r) (h : valD r k = some (.s a)) : ∃ t, PySem.valueAt l k = some (.str a t) := by
  obtain ⟨v, e, d⟩ := valsIs_at H h
  cases d
  exact ⟨_, e⟩
theorem hostNew {prog : Program} {w : World} {im : Led} {x hx vd lg rf : Nat} {o : Obj} {h1 h2 h3 h4 h5 h6 : Int} {t1 t2 t3 t4 t5 t6 u2 u4 u5 : Tok} (hd : o.IsDictOf (PySem.strKind prog w) []) (lo : (vd == sysModules) = false) (a : AllLt vd im) (b : vd < rf) (c : rf < hx) (d : hx < x) (e : x < lg) :
    HostIn prog w ((x, instObj 236 hx) :: (rf, listOf #[] 0) :: im) x hx vd lg [(hx, dictOf [⟨h1, .str (Str.ofString "values") t1, .ref vd⟩, ⟨h2, .str (Str.ofString "limit") t2, .int 9999 u2⟩, ⟨h3, .str (Str.ofString "refused") t3, .ref rf⟩, ⟨h4, .str (Str.ofString "width") t4, .int 64 u4⟩, ⟨h5, .str (Str.ofString "steps") t5, .int 0 u5⟩, ⟨h6, .str (Str.ofString "log") t6, .ref lg⟩] 6), (vd, o), (lg, listOf #[] 0)] ⟨[], [], 0⟩ := by
  have m := allLt_mem a
  refine HostIn.mk (its := []) (.head _) (.tail _ (.head _)) hd .nil .nil (Nat.ne_of_gt (by omega)) (Nat.ne_of_lt (by omega)) (Nat.ne_of_lt (by omega)) (Nat.ne_of_lt (by omega)) (Nat.ne_of_gt (by omega)) (Nat.ne_of_gt (by omega)) ?_ ?_ ?_ lo (Nat.le_refl _)
  · exact Off.cons (Nat.ne_of_gt d) (Off.cons (Nat.ne_of_lt c) fun p hp => Nat.ne_of_lt (Nat.lt_trans (m p hp) (by omega)))
  · exact Off.cons (Nat.ne_of_gt (by omega)) (Off.cons (Nat.ne_of_gt b) fun p hp => Nat.ne_of_lt (m p hp))
  · exact Off.cons (Nat.ne_of_lt e) (Off.cons (Nat.ne_of_lt (by omega)) fun p hp => Nat.ne_of_lt (Nat.lt_trans (m p hp) (by omega)))
theorem pow_py {b k : Nat} (hb : b ≤ 8) (hk : k < 3000) : (((b : Int)) ^ k).natAbs.log2 < 9000 := by
  rw [Int.natAbs_pow, Int.natAbs_natCast]
  by_cases h0 : b ^ k = 0
  · rw [h0]; decide
  · refine (Nat.log2_lt h0).mpr ?_
    have h1 : b ^ k ≤ 8 ^ k := Nat.pow_le_pow_left hb k
    have h2 : (8 : Nat) ^ k = 2 ^ (3 * k) := by rw [Nat.pow_mul]
    have h3 : 2 ^ (3 * k) < 2 ^ 9000 := Nat.pow_lt_pow_right (by decide) (by omega)
    omega
theorem int_item {prog : Program} {w : World} {A : Around} {E : Value → Shared → Prop} {s : Shared} {value slice : PySem.Expr} {h₀ : Heap} {L D k : Nat} {news : Led} {its : List Value} {pls : List Int} {i : Int} {u : Tok} {Q : Value → Shared → Prop} (N : News h₀ L s.heap news) (hm : (D, listOf its.toArray k) ∈ news) (hi : IntsAre its pls) (h0 : 0 ≤ i) (h1 : i < (pls.length : Int)) (hz : pls.length ≤ 100000) (h : ∀ p t, p ∈ pls → Q (.int p t) s)
    (hs : subscripted slice false (.ref D) (.int i u) = operate [.ref D, .int i u] (getItem (.ref D) (.int i u)) := by with_unfolding_all rfl) : wpAny (model prog w) A (subscriptTail value slice (.ref D) (.int i u)) Q E s := by
  have hl := News.isList N hm
  have hle := hi.length
  have hlt : i.toNat < its.length := by omega
  have hv : its[i.toNat]? = some its[i.toNat] := List.getElem?_eq_getElem hlt
  obtain ⟨p, t, hp, e⟩ := IntsAre.at hi _ _ hv
  refine tail_any hl.typeIs slot_list_getitem.lookup (wpAny_getItem_list hl h0 (by omega) (x := its[i.toNat]) (by simpa using hv) ?_) hs
  rw [hp]
  exact h p t (List.mem_of_getElem? e)
theorem News.headO {h₀ h : Heap} {L a : Addr} {o : Obj} {l : Led} (N : News h₀ L h ((a, o) :: l)) : ∃ o', o' = o ∧ News h₀ L h ((a, o') :: l) := ⟨o, rfl, N⟩
theorem three_cells {a b c : Int} (ha : 0 ≤ a) (hb : 0 ≤ b) (hc : 0 ≤ c) (ns : List Int) : ∃ c0 c1 c2 : Int, (List.map (fun k' => if k' < 0 then -k' else k') (List.take 3 ns) ++ List.drop (↑(List.take 3 ns).length : Int).toNat [a, b, c]) = [c0, c1, c2] ∧ 0 ≤ c0 ∧ 0 ≤ c1 ∧ 0 ≤ c2 := by
  have ab : ∀ x : Int, 0 ≤ (if x < 0 then -x else x) := by intro x; split <;> omega
  rcases ns with _ | ⟨x, _ | ⟨y, _ | ⟨z, r⟩⟩⟩
  · exact ⟨a, b, c, rfl, ha, hb, hc⟩
  · exact ⟨_, b, c, rfl, ab _, hb, hc⟩
  · exact ⟨_, _, c, rfl, ab _, ab _, hc⟩
  · exact ⟨_, _, _, rfl, ab _, ab _, ab _⟩
theorem ints_three {vs : List Value} {a b c : Int} (h : IntsAre vs [a, b, c]) : ∃ t0 t1 t2, vs = [.int a t0, .int b t1, .int c t2] := by
  cases h with
  | cons _ _ h =>
    cases h with
    | cons _ _ h =>
      cases h with
      | cons _ _ h =>
        cases h
        exact ⟨_, _, _, rfl⟩
end Mine
end
section
open PySem PySem.Spec PySem.Calls PySem.W PyProof.Rows
namespace Mine
theorem fill_Host : (fun (_ : OpenLaw) (_ : Params → Frag) => True) PySem.Challenge.rw_xm0956_02 KK := by k_fill; trivial
local macro_rules | `(tactic| k_all) => `(tactic| assumption)
local macro_rules | `(tactic| k_mem) => `(tactic| first | assumption | (refine' List.mem_cons_of_mem _ ?_; k_mem))
local macro_rules | `(tactic| walk_at "compareOp In str ref") => `(tactic| (k_here; (with_reducible show wpAny _ _ (compareOp CmpOp.In (Value.str _ _) (Value.ref _)) _ _ _); (with_unfolding_all refine' in_empty ?k1 ?k2 ?_; (case k1 => k_asm); (case k2 => k_mem); k_whole)))
local macro_rules | `(tactic| walk_at "setItem ref str") => `(tactic| (k_here; k_dflt (refine' kda_set (knd := PySem.strKind _ _) ?F ?N ?U ?d (strKind_is _ _ _ _) ?z ?_; (case F => k_asm); (case N => k_asm); (case U => k_updF); (case d => k_asm); (case z => (rw [sizeLine_eq]; omega))); intro h' o' F' N' hd'; (try dsimp only at N')))
section
variable {prog : Program} {w : World} {p : Program} {loose : List Str} {mean : ExcName → Option Value} {mg mb : Str → Option Value}
set_option maxRecDepth 100000
set_option maxHeartbeats 4000000
theorem step_does {im mu fr : Led} {x hx vd lg : Addr} {H : HS} (hh : HostIn prog w im x hx vd lg mu H) (hsp : Sep fr im) (hsh : SepH fr hx vd lg) (hs : H.steps + 1 ≤ 9999) :
    Does prog w (KK w.params) p loose mean mg mb 233 20 200 [.ref x] (mu ++ (im ++ fr))
      (fun r news' => ∃ mu', (∀ q ∈ mu' ++ (im ++ fr), q ∈ news') ∧ HostIn prog w im x hx vd lg mu' H.step ∧ r = .none) := by
  unfold Does
  intro dp un gd cn cs a ccd cl outer A₀ base h₀ L m s Q E B F X N T hk hdp hun hret
  cases hh with
  | mk hx_ rf_ vd_ vals_ log_ n1 n2 n3 n4 n5 n6 o1 o2 o3 lo vz =>
  have hz1 := vals_.length
  have hz2 := log_.length
  simp only [List.cons_append, List.nil_append] at N
  unfold Off at o1 o2 o3
  have p1 := off_app o1 fun p hp => (hsh p hp).1
  have p2 := off_app o2 fun p hp => (hsh p hp).2.1
  have p3 := off_app o3 fun p hp => (hsh p hp).2.2
  dsimp only at hs
  refine wpAny_call ?_
  k_dflt ktr_enter
  k_steps
  exact hret _ _ _ _ (by assumption) (by assumption) ⟨_, fun q hq => hq, .mk hx_ rf_ vd_ vals_ log_ n1 n2 n3 n4 n5 n6 o1 o2 o3 lo vz, rfl⟩
theorem assign_does {im mu fr : Led} {x hx vd lg : Addr} {H : HS} {rv v : Value} {nm : Str} {d : Dv} (hh : HostIn prog w im x hx vd lg mu H) (hsp : Sep fr im) (hsh : SepH fr hx vd lg) (hs : H.log.length ≤ 9999) (hr : NameIn im rv nm) (hv : DvIs v d) :
    Does prog w (KK w.params) p loose mean mg mb 226 20 200 [.ref x, rv, v] (mu ++ (im ++ fr))
      (fun r news' => ∃ mu' im', (∀ q ∈ mu' ++ (im' ++ fr), q ∈ news') ∧ (∀ q ∈ im, q ∈ im') ∧ Sep fr im' ∧ HostIn prog w im' x hx vd lg mu' (H.assign nm d) ∧ r = .bool true) := by
  unfold Does
  intro dp un gd cn cs a ccd cl outer A₀ base h₀ L m s Q E B F X N T hk hdp hun hret
  cases hh with
  | mk hx_ rf_ vd_ vals_ log_ n1 n2 n3 n4 n5 n6 o1 o2 o3 lo vz =>
  have hz1 := vals_.length
  have hz2 := log_.length
  cases hr with
  | mk hm1 hm2 hln =>
  simp only [List.cons_append, List.nil_append] at N
  unfold Off at o1 o2 o3
  have p1 := off_app o1 fun p hp => (hsh p hp).1
  have p2 := off_app o2 fun p hp => (hsh p hp).2.1
  have p3 := off_app o3 fun p hp => (hsh p hp).2.2
  dsimp only at hs
  refine wpAny_call ?_
  k_dflt ktr_enter
  k_steps
  (with_reducible rename News h₀ L _ _ => kN)
  (rename _ < _ ∧ _ < _ ∧ _ < _ ∧ AllLt _ _ => l1)
  simp only [List.push_toArray] at kN
  refine hret _ _ _ _ (by assumption) kN ⟨_, _, mem_31, fun q hq => .tail _ hq, Sep.up (allLt_app l1.2.2.2) hsp, ?_, rfl⟩
  exact HostIn.mk (.tail _ hx_) (.tail _ rf_) (by assumption) (vals_.stored hv) ((log_.mono fun q hq => .tail _ hq).snoc (.head _) hv) n1 n2 n3 n4 n5 n6 (Off.up l1.1 o1) (Off.up l1.2.1 o2) (Off.up l1.2.2.1 o3) lo (Nat.le_trans (putv_len _ _ _) (by rw [List.length_append]; exact Nat.succ_le_succ vz))
end
end Mine
end
section
open PySem PySem.Spec PySem.Calls PySem.W PyProof.Rows
open Mine
local macro_rules | `(tactic| k_all) => `(tactic| assumption)
local macro_rules | `(tactic| k_mem) => `(tactic| first | assumption | (refine' List.mem_cons_of_mem _ ?_; k_mem))
local macro_rules | `(tactic| walk_at "call ref") => `(tactic| (k_here; (with_reducible show wpAny _ _ (call (Value.ref _) _) _ _ _); k_dflt (refine wpAny_call ?_; (refine' code_def ?k1 ?k2 ?k3 ?k4 ?k5 ?kA ?kF ?kK ?k6 ?k7 ?k8 ?k9 ?kB ?_ ?c2 ?c3 ?c4 ?c5; (case kA => exact rfl); (case kF => exact rfl); (case kK => exact rfl); (case k1 => k_asm); (case k2 => k_asm); (case k3 => k_asm); (case k4 => k_asm); (case k5 => k_asm); (case k6 => k_is); (case k7 => k_is); (case k8 => ktr_room); (case k9 => exact BindsTo.of_eq rfl); (case c5 => decide); (case kB => exact locs rfl); (case c2 => exact rfl); (case c3 => exact rfl); (case c4 => exact rfl); k_whole; intro g' L' h' FG' F' N' B' X' T'; (try dsimp only); (try k_fold)))))
local macro_rules | `(tactic| walk_at "compareOp NotIn str ref") => `(tactic| (k_here; (with_reducible show wpAny _ _ (compareOp CmpOp.NotIn (Value.str _ _) (Value.ref _)) _ _ _); k_dflt (refine' notin_Kt ?k1 ?k2 ?k3 ?k4 ?k5 ?_; (case k1 => k_asm); (case k2 => k_asm); (case k3 => k_is); (case k4 => kde_strs); (case k5 => exact rfl); k_whole)))
local macro_rules | `(tactic| walk_at "getMethod ref") => `(tactic| (k_here; k_dflt (refine' hostM ?hh ?k1 ?k2 ?k3 ?hs ?k5 ?k6 ?k7 ?k8 ?_; (case hh => assumption); (case k1 => k_asm); (case k2 => k_asm); (case k3 => k_asm); (case hs => (intro q hq; simp only [List.mem_cons, List.mem_append] at hq ⊢; rcases hq with h | h <;> simp [h])); (case k5 => k_is); (case k6 => k_is); (case k7 => k_is); (case k8 => (intros; rfl)); k_whole)))
local macro_rules | `(tactic| walk_at "call ref") => `(tactic| (k_here; (with_reducible show wpAny _ _ (call (Value.ref 226) _) _ _ _); k_dflt (refine' Does.use (assign_does ?hh ?hsp ?hsh ?hs ?hr ?hv) ?k1 ?k2 ?k3 ?k4 ?k5 ?k6 ?k7 ?k8 ?k9 ?_; (case hh => assumption); (case hsp => assumption); (case hsh => assumption); (case hs => assumption); (case hr => assumption); (case hv => first | exact DvIs.i | exact DvIs.s); (case k1 => k_asm); (case k2 => k_asm); (case k3 => k_asm); (case k4 => k_asm); (case k5 => k_asm); (case k6 => exact rfl); (case k7 => (intro q hq; simp only [List.mem_cons, List.mem_append] at hq ⊢; rcases hq with h | h | h | h <;> simp [h])); (case k8 => ktr_room); (case k9 => ktr_units); k_whole); (intro r' led' h' tk' F' N' P'); (obtain ⟨mu', im', Pm, Ps, Psep, Ph, Pe⟩ := P'); (subst Pe); (replace N' := News.sub N' Pm); clear Pm; (try dsimp only); (try k_sweep)))
section
open PySem PySem.Spec PySem.Calls PySem.W PyProof.Rows
namespace Mine
local macro_rules | `(tactic| walk_at "call builtin:dict.get") => `(tactic| (k_here; k_dflt (refine' kdg_get2 (knd := PySem.strKind _ _) ?k1 ?k2 ?k3 ?k4 (strKind_is _ _ _ _) _ ?k5 ?_; (case k1 => k_asm); (case k2 => k_mem); (case k3 => k_asm); (case k4 => assumption); (case k5 => assumption); k_whole); (try simp only [Option.getD_some])))
local macro_rules | `(tactic| walk_at "subscriptTail Name Constant ref int") => `(tactic| (k_here; k_dflt ((first | ((with_reducible show wpAny _ _ (subscriptTail _ _ (Value.ref _) (Value.int 0 _)) _ _ _); refine' tup_i0 ?k1 ?_ ?k7 ?k8) | ((with_reducible show wpAny _ _ (subscriptTail _ _ (Value.ref _) (Value.int 1 _)) _ _ _); refine' tup_i1 ?k1 ?_ ?k7 ?k8) | ((with_reducible show wpAny _ _ (subscriptTail _ _ (Value.ref _) (Value.int 2 _)) _ _ _); refine' tup_i2 ?k1 ?_ ?k7 ?k8)); (case k1 => exact News.isTup (by k_asm) (by k_mem)); (case k7 => with_unfolding_all rfl); (case k8 => intro _; with_unfolding_all rfl))))
local macro_rules | `(tactic| walk_at "subscriptTail Subscript Name Constant Constant ref int") => `(tactic| (k_here; k_dflt ((first | ((with_reducible show wpAny _ _ (subscriptTail _ _ (Value.ref _) (Value.int 0 _)) _ _ _); refine' tup_i0 ?k1 ?_ ?k7 ?k8) | ((with_reducible show wpAny _ _ (subscriptTail _ _ (Value.ref _) (Value.int 1 _)) _ _ _); refine' tup_i1 ?k1 ?_ ?k7 ?k8) | ((with_reducible show wpAny _ _ (subscriptTail _ _ (Value.ref _) (Value.int 2 _)) _ _ _); refine' tup_i2 ?k1 ?_ ?k7 ?k8)); (case k1 => exact News.isTup (by k_asm) (by k_mem)); (case k7 => with_unfolding_all rfl); (case k8 => intro _; with_unfolding_all rfl))))
local macro_rules | `(tactic| walk_at "compareOp In str ref") => `(tactic| (k_here; (with_reducible show wpAny _ _ (compareOp CmpOp.In (Value.str _ _) (Value.ref _)) _ _ _); k_dflt (refine' in_Kt ?k1 ?k2 ?k3 ?k4 ?k5 ?_; (case k1 => k_asm); (case k2 => k_asm); (case k3 => k_is); (case k4 => kde_strs); (case k5 => exact rfl); k_whole)))
local macro_rules | `(tactic| walk_at "compareOp In str ref") => `(tactic| (k_here; (with_reducible show wpAny _ _ (compareOp CmpOp.In (Value.str _ _) (Value.ref _)) _ _ _); (with_reducible rename News _ _ _ _ => NR); k_dflt (refine' in_tup_drop NR ?k2 ?k3 ?_; (case k2 => kde_strs); (case k3 => exact rfl)); clear NR; intro N'))
section
variable {prog : Program} {w : World} {p : Program} {loose : List Str} {mean : ExcName → Option Value} {mg mb : Str → Option Value}
set_option maxRecDepth 100000
set_option maxHeartbeats 4000000
theorem value_does {im mu fr : Led} {x hx vd lg c : Addr} {H : HS} {nm y : Str} {t t' : Tok} {n : Nat} (hh : HostIn prog w im x hx vd lg mu H) (hc : (c, tup #[.str (Str.ofString "name") t, .str nm t'] n) ∈ im) (hy : valD H.vals nm = some (.s y)) (hsp : Sep fr im) :
    Does prog w (KK w.params) p loose mean mg mb 219 20 200 [.ref x, .ref c] (mu ++ (im ++ fr)) (fun r news' => (∀ q ∈ mu ++ (im ++ fr), q ∈ news') ∧ ∃ ty, r = .str y ty) := by
  unfold Does
  intro dp un gd cn cs a ccd cl outer A₀ base h₀ L m s Q E B F X N T hk hdp hun hret
  cases hh with
  | @mk rf5 o5 kvs5 its5 n5 _ _ _ _ _ _ _ _ _ _ _ _ _ _ _ vals5 log5 steps5 hx_ rf_ vd_ vals_ log_ n1 n2 n3 n4 n5' n6 o1 o2 o3 lo vz =>
  obtain ⟨ty, ey⟩ := valsIs_str vals_ hy
  simp only [List.cons_append, List.nil_append] at N
  refine wpAny_call ?_
  k_dflt ktr_enter
  k_steps
  all_goals exact hret _ _ _ _ (by assumption) (by assumption) ⟨fun q hq => hq, _, rfl⟩
end
end Mine
end
section
open PySem PySem.Spec PySem.Calls PySem.W PyProof.Rows
namespace Mine
local macro_rules | `(tactic| walk_at "call builtin:dict.get") => `(tactic| (k_here; k_dflt (refine' kdg_get2 (knd := PySem.strKind _ _) ?k1 ?k2 ?k3 ?k4 (strKind_is _ _ _ _) _ ?k5 ?_; (case k1 => k_asm); (case k2 => k_mem); (case k3 => k_asm); (case k4 => assumption); (case k5 => assumption); k_whole); (try simp only [Option.getD_some])))
local macro_rules | `(tactic| walk_at "subscriptTail Name Constant ref int") => `(tactic| (k_here; k_dflt ((first | ((with_reducible show wpAny _ _ (subscriptTail _ _ (Value.ref _) (Value.int 0 _)) _ _ _); refine' tup_i0 ?k1 ?_ ?k7 ?k8) | ((with_reducible show wpAny _ _ (subscriptTail _ _ (Value.ref _) (Value.int 1 _)) _ _ _); refine' tup_i1 ?k1 ?_ ?k7 ?k8) | ((with_reducible show wpAny _ _ (subscriptTail _ _ (Value.ref _) (Value.int 2 _)) _ _ _); refine' tup_i2 ?k1 ?_ ?k7 ?k8)); (case k1 => exact News.isTup (by k_asm) (by k_mem)); (case k7 => with_unfolding_all rfl); (case k8 => intro _; with_unfolding_all rfl))))
local macro_rules | `(tactic| walk_at "subscriptTail Subscript Name Constant Constant ref int") => `(tactic| (k_here; k_dflt ((first | ((with_reducible show wpAny _ _ (subscriptTail _ _ (Value.ref _) (Value.int 0 _)) _ _ _); refine' tup_i0 ?k1 ?_ ?k7 ?k8) | ((with_reducible show wpAny _ _ (subscriptTail _ _ (Value.ref _) (Value.int 1 _)) _ _ _); refine' tup_i1 ?k1 ?_ ?k7 ?k8) | ((with_reducible show wpAny _ _ (subscriptTail _ _ (Value.ref _) (Value.int 2 _)) _ _ _); refine' tup_i2 ?k1 ?_ ?k7 ?k8)); (case k1 => exact News.isTup (by k_asm) (by k_mem)); (case k7 => with_unfolding_all rfl); (case k8 => intro _; with_unfolding_all rfl))))
local macro_rules | `(tactic| walk_at "compareOp In str ref") => `(tactic| (k_here; (with_reducible show wpAny _ _ (compareOp CmpOp.In (Value.str _ _) (Value.ref _)) _ _ _); k_dflt (refine' in_Kt ?k1 ?k2 ?k3 ?k4 ?k5 ?_; (case k1 => k_asm); (case k2 => k_asm); (case k3 => k_is); (case k4 => kde_strs); (case k5 => exact rfl); k_whole)))
local macro_rules | `(tactic| walk_at "compareOp In str ref") => `(tactic| (k_here; (with_reducible show wpAny _ _ (compareOp CmpOp.In (Value.str _ _) (Value.ref _)) _ _ _); (with_reducible rename News _ _ _ _ => NR); k_dflt (refine' in_tup_drop NR ?k2 ?k3 ?_; (case k2 => kde_strs); (case k3 => exact rfl)); clear NR; intro N'))
local macro_rules | `(tactic| walk_at "call ref") => `(tactic| (k_here; (with_reducible show wpAny _ _ (call (Value.ref 219) _) _ _ _); k_dflt (refine' Does.use (value_does ?hh ?hc ?hy ?hsp) ?k1 ?k2 ?k3 ?k4 ?k5 ?k6 ?k7 ?k8 ?k9 ?_; (case hh => assumption); (case hc => assumption); (case hy => assumption); (case hsp => assumption); (case k1 => k_asm); (case k2 => k_asm); (case k3 => k_asm); (case k4 => k_asm); (case k5 => k_asm); (case k6 => exact rfl); (case k7 => (intro q hq; simp only [List.mem_cons, List.mem_append] at hq ⊢; rcases hq with h | h | h <;> simp [h])); (case k8 => ktr_room); (case k9 => ktr_units); k_whole); (intro r' led' h' tk' F' N' P'); (obtain ⟨Pm, tV, Pe⟩ := P'); (subst Pe); (replace N' := News.sub N' Pm); clear Pm; (try dsimp only); (try k_sweep)))
section
variable {prog : Program} {w : World} {p : Program} {loose : List Str} {mean : ExcName → Option Value} {mg mb : Str → Option Value}
set_option maxRecDepth 100000
set_option maxHeartbeats 4000000
theorem settled_does {im mu fr : Led} {x hx vd lg a b c : Addr} {H : HS} {nm y : Str} {t t' u u' : Tok} {n n' n'' : Nat} (hh : HostIn prog w im x hx vd lg mu H) (hm : (a, tup #[.str (Str.ofString "notany") t, .ref b] n) ∈ im) (hb : (b, tup #[.str (Str.ofString "delay") t', .ref c] n') ∈ im) (hc : (c, tup #[.str (Str.ofString "name") u, .str nm u'] n'') ∈ im) (hy : valD H.vals nm = some (.s y)) (hy0 : 0 < y.length) (hy1 : y.length ≤ 1000) (hs : Sep fr im) :
    Does prog w (KK w.params) p loose mean mg mb 278 30 300 [.ref a, .ref x] (mu ++ (im ++ fr)) (fun r news' => ∃ D tk ty k, r = .ref D ∧ (∀ q ∈ (D, tup #[.str (Str.ofString "notany") tk, .str y ty] k) :: (mu ++ (im ++ fr)), q ∈ news') ∧ AllLt D (mu ++ (im ++ fr))) := by
  unfold Does
  intro dp un gd cn cs aa ccd cl outer A₀ base h₀ L m s Q E B F X N T hkk hdp hun hret
  have hy2 : (y == Str.ofString "") = false := by
    rw [beq_eq_false_iff_ne]; intro e; rw [e] at hy0; exact absurd hy0 (by decide)
  refine wpAny_call ?_
  k_dflt ktr_enter
  k_steps
  all_goals (with_reducible rename News h₀ L _ _ => kN)
  all_goals exact hret _ _ _ _ (by assumption) kN ⟨_, _, _, _, rfl, fun q hq => hq, allLt_of (by assumption)⟩
end
end Mine
end
section
open PySem PySem.Spec PySem.Calls PySem.W PyProof.Rows
namespace Mine
local macro_rules | `(tactic| walk_at "no such key") => `(tactic| fail)
theorem mem_sw {P : Addr × Obj} {mu im fr : Led} : ∀ q ∈ mu ++ (im ++ (P :: fr)), q ∈ P :: (mu ++ (im ++ fr)) := by
  intro q hq
  simp only [List.mem_cons, List.mem_append] at hq ⊢
  rcases hq with h | h | h | h <;> simp [h]
theorem mem_ws {P : Addr × Obj} {mu im fr : Led} : ∀ q ∈ P :: (mu ++ (im ++ fr)), q ∈ mu ++ (im ++ (P :: fr)) := by
  intro q hq
  simp only [List.mem_cons, List.mem_append] at hq ⊢
  rcases hq with h | h | h | h <;> simp [h]
theorem settled_at {prog : Program} {w : World} {p : Program} {loose : List Str} {mean : ExcName → Option Value} {mg mb : Str → Option Value} {im mu fr : Led} {x hx vd lg a b c : Addr} {P : Addr × Obj} {H : HS} {nm y : Str} {t t' u u' : Tok} {n n' n'' : Nat} (hh : HostIn prog w im x hx vd lg mu H) (hm : (a, tup #[.str (Str.ofString "notany") t, .ref b] n) ∈ im) (hb : (b, tup #[.str (Str.ofString "delay") t', .ref c] n') ∈ im) (hc : (c, tup #[.str (Str.ofString "name") u, .str nm u'] n'') ∈ im) (hy : valD H.vals nm = some (.s y)) (hy0 : 0 < y.length) (hy1 : y.length ≤ 1000) (hs : Sep (P :: fr) im) :
    Does prog w (KK w.params) p loose mean mg mb 278 30 300 [.ref a, .ref x] (P :: (mu ++ (im ++ fr))) (fun r news' => ∃ D tk ty k, r = .ref D ∧ (∀ q ∈ (D, tup #[.str (Str.ofString "notany") tk, .str y ty] k) :: P :: (mu ++ (im ++ fr)), q ∈ news') ∧ AllLt D (P :: (mu ++ (im ++ fr)))) := by
  unfold Does
  intro dp un gd cn cs aa ccd cl outer A₀ base h₀ L m s Q E B F X N T hkk hdp hun hret
  refine settled_does (fr := P :: fr) hh hm hb hc hy hy0 hy1 hs dp un gd cn cs aa ccd cl outer A₀ base h₀ L m s Q E B F X (News.sub N mem_sw) T hkk hdp hun ?_
  rintro r news' h' tk' F' N' ⟨D, tk, ty, k, e, Pm, Pl⟩
  refine hret _ _ _ _ F' N' ⟨D, tk, ty, k, e, fun q hq => Pm q ?_, allLt_of fun p hp => allLt_mem Pl p (mem_ws p hp)⟩
  rcases List.mem_cons.mp hq with h | h
  · rw [h]; exact .head _
  · exact .tail _ (mem_ws q h)
local macro_rules | `(tactic| walk_at "call builtin:dict.get") => `(tactic| (k_here; k_dflt (refine' kdg_get2 (knd := PySem.strKind _ _) ?k1 ?k2 ?k3 ?k4 (strKind_is _ _ _ _) _ ?k5 ?_; (case k1 => k_asm); (case k2 => k_mem); (case k3 => k_asm); (case k4 => assumption); (case k5 => assumption); k_whole); (try simp only [Option.getD_some])))
local macro_rules | `(tactic| walk_at "subscriptTail Name Constant ref int") => `(tactic| (k_here; k_dflt ((first | ((with_reducible show wpAny _ _ (subscriptTail _ _ (Value.ref _) (Value.int 0 _)) _ _ _); refine' tup_i0 ?k1 ?_ ?k7 ?k8) | ((with_reducible show wpAny _ _ (subscriptTail _ _ (Value.ref _) (Value.int 1 _)) _ _ _); refine' tup_i1 ?k1 ?_ ?k7 ?k8) | ((with_reducible show wpAny _ _ (subscriptTail _ _ (Value.ref _) (Value.int 2 _)) _ _ _); refine' tup_i2 ?k1 ?_ ?k7 ?k8)); (case k1 => exact News.isTup (by k_asm) (by k_mem)); (case k7 => with_unfolding_all rfl); (case k8 => intro _; with_unfolding_all rfl))))
local macro_rules | `(tactic| walk_at "subscriptTail Subscript Name Constant Constant ref int") => `(tactic| (k_here; k_dflt ((first | ((with_reducible show wpAny _ _ (subscriptTail _ _ (Value.ref _) (Value.int 0 _)) _ _ _); refine' tup_i0 ?k1 ?_ ?k7 ?k8) | ((with_reducible show wpAny _ _ (subscriptTail _ _ (Value.ref _) (Value.int 1 _)) _ _ _); refine' tup_i1 ?k1 ?_ ?k7 ?k8) | ((with_reducible show wpAny _ _ (subscriptTail _ _ (Value.ref _) (Value.int 2 _)) _ _ _); refine' tup_i2 ?k1 ?_ ?k7 ?k8)); (case k1 => exact News.isTup (by k_asm) (by k_mem)); (case k7 => with_unfolding_all rfl); (case k8 => intro _; with_unfolding_all rfl))))
local macro_rules | `(tactic| walk_at "compareOp In str ref") => `(tactic| (k_here; (with_reducible show wpAny _ _ (compareOp CmpOp.In (Value.str _ _) (Value.ref _)) _ _ _); k_dflt (refine' in_Kt ?k1 ?k2 ?k3 ?k4 ?k5 ?_; (case k1 => k_asm); (case k2 => k_asm); (case k3 => k_is); (case k4 => kde_strs); (case k5 => exact rfl); k_whole)))
local macro_rules | `(tactic| walk_at "compareOp In str ref") => `(tactic| (k_here; (with_reducible show wpAny _ _ (compareOp CmpOp.In (Value.str _ _) (Value.ref _)) _ _ _); (with_reducible rename News _ _ _ _ => NR); k_dflt (refine' in_tup_drop NR ?k2 ?k3 ?_; (case k2 => kde_strs); (case k3 => exact rfl)); clear NR; intro N'))
local macro_rules | `(tactic| walk_at "call ref") => `(tactic| (k_here; (with_reducible show wpAny _ _ (call (Value.ref 278) _) _ _ _); k_dflt (refine' Does.use (settled_at ?hh ?hm ?hb ?hc ?hy ?h0 ?h1 ?hsp) ?k1 ?k2 ?k3 ?k4 ?k5 ?k6 ?k7 ?k8 ?k9 ?_; (case hh => assumption); (case hm => assumption); (case hb => assumption); (case hc => assumption); (case hy => assumption); (case h0 => assumption); (case h1 => assumption); (case hsp => assumption); (case k1 => k_asm); (case k2 => k_asm); (case k3 => k_asm); (case k4 => k_asm); (case k5 => k_asm); (case k6 => exact rfl); (case k7 => (exact fun q hq => (by first | exact hq | exact .tail _ hq | exact .tail _ (.tail _ hq) | exact .tail _ (.tail _ (.tail _ hq))))); (case k8 => ktr_room); (case k9 => ktr_units); k_whole); (intro r' led' h' tk' F' N' P'); (obtain ⟨DS, tS, yS, kS, Pe, Pm, Pl⟩ := P'); (subst Pe); (replace N' := News.sub N' Pm); clear Pm; (simp only [AllLt] at Pl); (try dsimp only); (try k_sweep)))
section
variable {prog : Program} {w : World} {p : Program} {loose : List Str} {mean : ExcName → Option Value} {mg mb : Str → Option Value}
set_option maxRecDepth 100000
set_option maxHeartbeats 4000000
theorem adv_notanyD {im mu fr : Led} {x hx vd lg pl c : Addr} {H : HS} {hv rv nv : Value} {nc n : Nat} {nm : Str} {rest : List It} {k : Nat} {t1 t2 : Tok} {sub : Str} {its : List Value} {pile : List (List It × Nat)}
    (hc : (c, tup #[hv, rv] nc) ∈ im) (hi : NodeIn im hv (.notanyD nm)) (hsu : supp (.nd (.notanyD nm)) H = true) (hr : ChainIn im rv rest) (hnv : NilIn im nv) (hh : HostIn prog w im x hx vd lg mu H) (hp : PileIn im its pile) (ho : Off pl im) (hof : Off pl fr) (hs : Sep fr im) (hsh : SepH fr hx vd lg) (hpl : pl ≠ hx ∧ pl ≠ vd ∧ pl ≠ lg) (hk : k ≤ 1000) (hsub : sub.length ≤ 1000) (hz : pile.length ≤ 1000) (hlog : H.log.length ≤ 9999) :
    Does prog w (KK w.params) p loose mean mg mb 418 40 400 [.ref c, .int (k : Int) t1, nv, .str sub t2, .ref pl, .ref x] ((pl, listOf its.toArray n) :: (mu ++ (im ++ fr)))
      (AdvPost prog w im fr x hx vd lg pl (adv (.nd (.notanyD nm)) rest k sub pile H).1 (adv (.nd (.notanyD nm)) rest k sub pile H).2.1 (adv (.nd (.notanyD nm)) rest k sub pile H).2.2) := by
  unfold Does
  intro dp un gd cn cs aa ccd cl outer A₀ base h₀ L m s Q E B F X N T hkk hdp hun hret
  have hz1 := hp.length
  have hoffs := hh.offs ho hof hpl
  have hh' := hh
  obtain ⟨y, hy, hy0, hy1⟩ : ∃ y, valD H.vals nm = some (.s y) ∧ 0 < y.length ∧ y.length ≤ 1000 := by
    unfold supp at hsu
    dsimp only at hsu
    split at hsu
    · next y e => rw [Bool.and_eq_true, decide_eq_true_eq, decide_eq_true_eq] at hsu; exact ⟨y, e, hsu.1, hsu.2⟩
    · cases hsu
  cases hnv with
  | mk hnv =>
  cases hi with
  | notanyD hm hb hc2 hl =>
  have hy2 : (y == Str.ofString "") = false := by
    rw [beq_eq_false_iff_ne]; intro e; rw [e] at hy0; exact absurd hy0 (by decide)
  have hs' : Sep ((pl, listOf its.toArray n) :: fr) im := fun f hf => by
    rcases List.mem_cons.mp hf with rfl | hf
    · exact ho
    · exact hs f hf
  refine wpAny_call ?_
  k_dflt ktr_enter
  k_steps
  all_goals (with_reducible rename News h₀ L _ _ => kN)
  all_goals (try simp only [List.push_toArray] at kN)
  all_goals first
    | refine hret _ _ _ _ (by assumption) kN (advEnd (e := [_, _]) hh' ho hs ?_ ?_ ?_)
    | refine hret _ _ _ _ (by assumption) kN (advEnd (e := [_, _, _]) hh' ho hs ?_ ?_ ?_)
    | refine hret _ _ _ _ (by assumption) kN (advEnd (e := [_, _, _, _]) hh' ho hs ?_ ?_ ?_)
    | refine hret _ _ _ _ (by assumption) kN (advEnd (e := [_, _, _, _, _]) hh' ho hs ?_ ?_ ?_)
    | refine hret _ _ _ _ (by assumption) kN (advEnd (e := [_, _, _, _, _, _]) hh' ho hs ?_ ?_ ?_)
    | refine hret _ _ _ _ (by assumption) kN (advEnd (e := [_, _, _, _, _, _, _]) hh' ho hs ?_ ?_ ?_)
    | refine hret _ _ _ _ (by assumption) kN (advEnd (e := [_]) hh' ho hs ?_ ?_ ?_)
    | refine hret _ _ _ _ (by assumption) kN (advEnd (e := []) hh' ho hs ?_ ?_ ?_)
    | refine hret _ _ _ _ (by assumption) kN (advEnd (e := [_, _, _, _, _, _, _, _]) hh' ho hs ?_ ?_ ?_)
  all_goals first
    | exact hp.mono fun q hq => List.mem_append_right _ hq
    | exact wayOut_yes (nd := .notanyD nm) (sub := sub) (k := k) (H := _) (.head _) (hr.mono fun q hq => List.mem_append_right _ hq) (.mk (List.mem_append_right _ hnv)) (by
        simp only [endOf, hy]
        first
          | exact ⟨_, if_pos ⟨by omega, by assumption⟩, by omega⟩)
    | exact wayOut_no (nd := .notanyD nm) (sub := sub) (k := k) (H := _) (by
        simp only [endOf, hy]
        first
          | exact if_neg (by omega)
          | exact if_neg fun h => absurd h.2 (ne_true_of_eq_false (by assumption)))
    | (simp only [OverP]; repeat' (first | exact trivial | tbn_find | (refine ltN ?_; omega) | apply And.intro))
end
end Mine
end
section
open PySem PySem.Spec PySem.Calls PySem.W PyProof.Rows
namespace Mine
local macro_rules | `(tactic| walk_at "subscriptTail Name Constant ref int") => `(tactic| (k_here; k_dflt ((first | ((with_reducible show wpAny _ _ (subscriptTail _ _ (Value.ref _) (Value.int 0 _)) _ _ _); refine' tup_i0 ?k1 ?_ ?k7 ?k8) | ((with_reducible show wpAny _ _ (subscriptTail _ _ (Value.ref _) (Value.int 1 _)) _ _ _); refine' tup_i1 ?k1 ?_ ?k7 ?k8) | ((with_reducible show wpAny _ _ (subscriptTail _ _ (Value.ref _) (Value.int 2 _)) _ _ _); refine' tup_i2 ?k1 ?_ ?k7 ?k8)); (case k1 => exact News.isTup (by k_asm) (by k_mem)); (case k7 => with_unfolding_all rfl); (case k8 => intro _; with_unfolding_all rfl))))
local macro_rules | `(tactic| walk_at "compareOp In str ref") => `(tactic| (k_here; (with_reducible show wpAny _ _ (compareOp CmpOp.In (Value.str _ _) (Value.ref _)) _ _ _); (with_reducible rename News _ _ _ _ => NR); k_dflt (refine' in_tup_drop NR ?k2 ?k3 ?_; (case k2 => kde_strs); (case k3 => exact rfl)); clear NR; intro N'))
section
variable {prog : Program} {w : World} {p : Program} {loose : List Str} {mean : ExcName → Option Value} {mg mb : Str → Option Value}
set_option maxRecDepth 100000
set_option maxHeartbeats 4000000
theorem adv_cat {im mu fr : Led} {x hx vd lg pl c : Addr} {H : HS} {hv rv nv : Value} {nc n : Nat} {a b : Nd} {rest : List It} {k : Nat} {t1 t2 : Tok} {sub : Str} {its : List Value} {pile : List (List It × Nat)}
    (hc : (c, tup #[hv, rv] nc) ∈ im) (hi : NodeIn im hv (.cat a b)) (hr : ChainIn im rv rest) (hnv : NilIn im nv) (hh : HostIn prog w im x hx vd lg mu H) (hp : PileIn im its pile) (ho : Off pl im) (hof : Off pl fr) (hs : Sep fr im) (hsh : SepH fr hx vd lg) (hpl : pl ≠ hx ∧ pl ≠ vd ∧ pl ≠ lg) (hk : k ≤ 1000) (hsub : sub.length ≤ 1000) (hz : pile.length ≤ 1000) (hlog : H.log.length ≤ 9999) :
    Does prog w (KK w.params) p loose mean mg mb 418 40 400 [.ref c, .int (k : Int) t1, nv, .str sub t2, .ref pl, .ref x] ((pl, listOf its.toArray n) :: (mu ++ (im ++ fr)))
      (AdvPost prog w im fr x hx vd lg pl (adv (.nd (.cat a b)) rest k sub pile H).1 (adv (.nd (.cat a b)) rest k sub pile H).2.1 (adv (.nd (.cat a b)) rest k sub pile H).2.2) := by
  unfold Does
  intro dp un gd cn cs aa ccd cl outer A₀ base h₀ L m s Q E B F X N T hkk hdp hun hret
  have hz1 := hp.length
  have hoffs := hh.offs ho hof hpl
  cases hnv with
  | mk hnv =>
  cases hi with
  | cat hm ha hb =>
  refine wpAny_call ?_
  k_dflt ktr_enter
  k_steps
  all_goals (with_reducible rename News h₀ L _ _ => kN)
  all_goals (try simp only [List.push_toArray] at kN)
  all_goals first
    | refine hret _ _ _ _ (by assumption) kN (advEnd (e := [_, _]) hh ho hs ?_ ?_ ?_)
    | refine hret _ _ _ _ (by assumption) kN (advEnd (e := [_, _, _]) hh ho hs ?_ ?_ ?_)
    | refine hret _ _ _ _ (by assumption) kN (advEnd (e := [_, _, _, _]) hh ho hs ?_ ?_ ?_)
    | refine hret _ _ _ _ (by assumption) kN (advEnd (e := [_, _, _, _, _]) hh ho hs ?_ ?_ ?_)
    | refine hret _ _ _ _ (by assumption) kN (advEnd (e := [_, _, _, _, _, _]) hh ho hs ?_ ?_ ?_)
    | refine hret _ _ _ _ (by assumption) kN (advEnd (e := [_]) hh ho hs ?_ ?_ ?_)
    | refine hret _ _ _ _ (by assumption) kN (advEnd (e := []) hh ho hs ?_ ?_ ?_)
  all_goals (try simp only [List.cons_append, List.nil_append])
  all_goals first
    | ktd_rel
    | (simp only [OverP]; repeat' (first | exact trivial | tbn_find | (refine ltN ?_; omega) | apply And.intro))
theorem adv_now {im mu fr : Led} {x hx vd lg pl c : Addr} {H : HS} {hv rv nv : Value} {nc n : Nat} {a : Nd} {nm : Str} {rest : List It} {k : Nat} {t1 t2 : Tok} {sub : Str} {its : List Value} {pile : List (List It × Nat)}
    (hc : (c, tup #[hv, rv] nc) ∈ im) (hi : NodeIn im hv (.now a nm)) (hr : ChainIn im rv rest) (hnv : NilIn im nv) (hh : HostIn prog w im x hx vd lg mu H) (hp : PileIn im its pile) (ho : Off pl im) (hof : Off pl fr) (hs : Sep fr im) (hsh : SepH fr hx vd lg) (hpl : pl ≠ hx ∧ pl ≠ vd ∧ pl ≠ lg) (hk : k ≤ 1000) (hsub : sub.length ≤ 1000) (hz : pile.length ≤ 1000) (hlog : H.log.length ≤ 9999) :
    Does prog w (KK w.params) p loose mean mg mb 418 40 400 [.ref c, .int (k : Int) t1, nv, .str sub t2, .ref pl, .ref x] ((pl, listOf its.toArray n) :: (mu ++ (im ++ fr)))
      (AdvPost prog w im fr x hx vd lg pl (adv (.nd (.now a nm)) rest k sub pile H).1 (adv (.nd (.now a nm)) rest k sub pile H).2.1 (adv (.nd (.now a nm)) rest k sub pile H).2.2) := by
  unfold Does
  intro dp un gd cn cs aa ccd cl outer A₀ base h₀ L m s Q E B F X N T hkk hdp hun hret
  have hz1 := hp.length
  have hoffs := hh.offs ho hof hpl
  cases hnv with
  | mk hnv =>
  cases hi with
  | now hm ha hb =>
  refine wpAny_call ?_
  k_dflt ktr_enter
  k_steps
  all_goals (with_reducible rename News h₀ L _ _ => kN)
  all_goals (try simp only [List.push_toArray] at kN)
  all_goals first
    | refine hret _ _ _ _ (by assumption) kN (advEnd (e := [_, _]) hh ho hs ?_ ?_ ?_)
    | refine hret _ _ _ _ (by assumption) kN (advEnd (e := [_, _, _]) hh ho hs ?_ ?_ ?_)
    | refine hret _ _ _ _ (by assumption) kN (advEnd (e := [_, _, _, _]) hh ho hs ?_ ?_ ?_)
    | refine hret _ _ _ _ (by assumption) kN (advEnd (e := [_, _, _, _, _]) hh ho hs ?_ ?_ ?_)
    | refine hret _ _ _ _ (by assumption) kN (advEnd (e := [_, _, _, _, _, _]) hh ho hs ?_ ?_ ?_)
    | refine hret _ _ _ _ (by assumption) kN (advEnd (e := [_]) hh ho hs ?_ ?_ ?_)
    | refine hret _ _ _ _ (by assumption) kN (advEnd (e := []) hh ho hs ?_ ?_ ?_)
  all_goals (try simp only [List.cons_append, List.nil_append])
  all_goals first
    | ktd_rel
    | (simp only [OverP]; repeat' (first | exact trivial | tbn_find | (refine ltN ?_; omega) | apply And.intro))
theorem adv_cursor {im mu fr : Led} {x hx vd lg pl c : Addr} {H : HS} {hv rv nv : Value} {nc n : Nat} {nm : Str} {rest : List It} {k : Nat} {t1 t2 : Tok} {sub : Str} {its : List Value} {pile : List (List It × Nat)}
    (hc : (c, tup #[hv, rv] nc) ∈ im) (hi : NodeIn im hv (.cursor nm)) (hr : ChainIn im rv rest) (hnv : NilIn im nv) (hh : HostIn prog w im x hx vd lg mu H) (hp : PileIn im its pile) (ho : Off pl im) (hof : Off pl fr) (hs : Sep fr im) (hsh : SepH fr hx vd lg) (hpl : pl ≠ hx ∧ pl ≠ vd ∧ pl ≠ lg) (hk : k ≤ 1000) (hsub : sub.length ≤ 1000) (hz : pile.length ≤ 1000) (hlog : H.log.length ≤ 9999) :
    Does prog w (KK w.params) p loose mean mg mb 418 40 400 [.ref c, .int (k : Int) t1, nv, .str sub t2, .ref pl, .ref x] ((pl, listOf its.toArray n) :: (mu ++ (im ++ fr)))
      (AdvPost prog w im fr x hx vd lg pl (adv (.nd (.cursor nm)) rest k sub pile H).1 (adv (.nd (.cursor nm)) rest k sub pile H).2.1 (adv (.nd (.cursor nm)) rest k sub pile H).2.2) := by
  unfold Does
  intro dp un gd cn cs aa ccd cl outer A₀ base h₀ L m s Q E B F X N T hkk hdp hun hret
  have hz1 := hp.length
  have hoffs := hh.offs ho hof hpl
  cases hnv with
  | mk hnv =>
  cases hi with
  | cursor hm hb =>
  have hs' : Sep ((pl, listOf its.toArray n) :: fr) im := fun f hf => by
    rcases List.mem_cons.mp hf with rfl | hf
    · exact ho
    · exact hs f hf
  have hsh' : SepH ((pl, listOf its.toArray n) :: fr) hx vd lg := fun f hf => by
    rcases List.mem_cons.mp hf with rfl | hf
    · exact hpl
    · exact hsh f hf
  clear hs hsh
  refine wpAny_call ?_
  k_dflt ktr_enter
  k_steps
  (with_reducible rename News h₀ L _ _ => kN)
  exact hret _ _ _ _ (by assumption) kN (advEnd2 (by assumption) (by assumption) (by assumption) (allLt_of (by assumption)) hp hr (.mk hnv))
theorem adv_fail {im mu fr : Led} {x hx vd lg pl c : Addr} {H : HS} {hv rv nv : Value} {nc n : Nat}  {rest : List It} {k : Nat} {t1 t2 : Tok} {sub : Str} {its : List Value} {pile : List (List It × Nat)}
    (hc : (c, tup #[hv, rv] nc) ∈ im) (hi : NodeIn im hv (.fail)) (hr : ChainIn im rv rest) (hnv : NilIn im nv) (hh : HostIn prog w im x hx vd lg mu H) (hp : PileIn im its pile) (ho : Off pl im) (hof : Off pl fr) (hs : Sep fr im) (hsh : SepH fr hx vd lg) (hpl : pl ≠ hx ∧ pl ≠ vd ∧ pl ≠ lg) (hk : k ≤ 1000) (hsub : sub.length ≤ 1000) (hz : pile.length ≤ 1000) (hlog : H.log.length ≤ 9999) :
    Does prog w (KK w.params) p loose mean mg mb 418 40 400 [.ref c, .int (k : Int) t1, nv, .str sub t2, .ref pl, .ref x] ((pl, listOf its.toArray n) :: (mu ++ (im ++ fr)))
      (AdvPost prog w im fr x hx vd lg pl (adv (.nd .fail) rest k sub pile H).1 (adv (.nd .fail) rest k sub pile H).2.1 (adv (.nd .fail) rest k sub pile H).2.2) := by
  unfold Does
  intro dp un gd cn cs aa ccd cl outer A₀ base h₀ L m s Q E B F X N T hkk hdp hun hret
  have hz1 := hp.length
  have hoffs := hh.offs ho hof hpl
  cases hnv with
  | mk hnv =>
  cases hi with
  | fail hm =>
  refine wpAny_call ?_
  k_dflt ktr_enter
  k_steps
  all_goals (with_reducible rename News h₀ L _ _ => kN)
  all_goals (try simp only [List.push_toArray] at kN)
  all_goals first
    | refine hret _ _ _ _ (by assumption) kN (advEnd (e := [_, _]) hh ho hs ?_ ?_ ?_)
    | refine hret _ _ _ _ (by assumption) kN (advEnd (e := [_, _, _]) hh ho hs ?_ ?_ ?_)
    | refine hret _ _ _ _ (by assumption) kN (advEnd (e := [_, _, _, _]) hh ho hs ?_ ?_ ?_)
    | refine hret _ _ _ _ (by assumption) kN (advEnd (e := [_, _, _, _, _]) hh ho hs ?_ ?_ ?_)
    | refine hret _ _ _ _ (by assumption) kN (advEnd (e := [_, _, _, _, _, _]) hh ho hs ?_ ?_ ?_)
    | refine hret _ _ _ _ (by assumption) kN (advEnd (e := [_]) hh ho hs ?_ ?_ ?_)
    | refine hret _ _ _ _ (by assumption) kN (advEnd (e := []) hh ho hs ?_ ?_ ?_)
  all_goals (try simp only [List.cons_append, List.nil_append])
  all_goals first
    | ktd_rel
    | (simp only [OverP]; repeat' (first | exact trivial | tbn_find | (refine ltN ?_; omega) | apply And.intro))
theorem adv_endNow {im mu fr : Led} {x hx vd lg pl c : Addr} {H : HS} {hv rv nv : Value} {nc n : Nat} {nm : Str} {b : Nat} {rest : List It} {k : Nat} {t1 t2 : Tok} {sub : Str} {its : List Value} {pile : List (List It × Nat)}
    (hc : (c, tup #[hv, rv] nc) ∈ im) (hi : ItIn im hv (.endNow nm b)) (hr : ChainIn im rv rest) (hnv : NilIn im nv) (hh : HostIn prog w im x hx vd lg mu H) (hp : PileIn im its pile) (ho : Off pl im) (hof : Off pl fr) (hs : Sep fr im) (hsh : SepH fr hx vd lg) (hpl : pl ≠ hx ∧ pl ≠ vd ∧ pl ≠ lg) (hk : k ≤ 1000) (hsub : sub.length ≤ 1000) (hz : pile.length ≤ 1000) (hlog : H.log.length ≤ 9999) :
    Does prog w (KK w.params) p loose mean mg mb 418 40 400 [.ref c, .int (k : Int) t1, nv, .str sub t2, .ref pl, .ref x] ((pl, listOf its.toArray n) :: (mu ++ (im ++ fr)))
      (AdvPost prog w im fr x hx vd lg pl (adv (.endNow nm b) rest k sub pile H).1 (adv (.endNow nm b) rest k sub pile H).2.1 (adv (.endNow nm b) rest k sub pile H).2.2) := by
  unfold Does
  intro dp un gd cn cs aa ccd cl outer A₀ base h₀ L m s Q E B F X N T hkk hdp hun hret
  have hz1 := hp.length
  have hoffs := hh.offs ho hof hpl
  cases hnv with
  | mk hnv =>
  cases hi with
  | endNow hm hb hl =>
  have hs' : Sep ((pl, listOf its.toArray n) :: fr) im := fun f hf => by
    rcases List.mem_cons.mp hf with rfl | hf
    · exact ho
    · exact hs f hf
  have hsh' : SepH ((pl, listOf its.toArray n) :: fr) hx vd lg := fun f hf => by
    rcases List.mem_cons.mp hf with rfl | hf
    · exact hpl
    · exact hsh f hf
  clear hs hsh
  refine wpAny_call ?_
  k_dflt ktr_enter
  k_steps
  (with_reducible rename News h₀ L _ _ => kN)
  exact hret _ _ _ _ (by assumption) kN (advEnd2 (by assumption) (by assumption) (by assumption) (allLt_of (by assumption)) hp hr (.mk hnv))
theorem adv_len {im mu fr : Led} {x hx vd lg pl c : Addr} {H : HS} {hv rv nv : Value} {nc n : Nat} {j : Nat} {rest : List It} {k : Nat} {t1 t2 : Tok} {sub : Str} {its : List Value} {pile : List (List It × Nat)}
    (hc : (c, tup #[hv, rv] nc) ∈ im) (hi : NodeIn im hv (.len j)) (hr : ChainIn im rv rest) (hnv : NilIn im nv) (hh : HostIn prog w im x hx vd lg mu H) (hp : PileIn im its pile) (ho : Off pl im) (hof : Off pl fr) (hs : Sep fr im) (hsh : SepH fr hx vd lg) (hpl : pl ≠ hx ∧ pl ≠ vd ∧ pl ≠ lg) (hk : k ≤ 1000) (hsub : sub.length ≤ 1000) (hz : pile.length ≤ 1000) (hlog : H.log.length ≤ 9999) :
    Does prog w (KK w.params) p loose mean mg mb 418 40 400 [.ref c, .int (k : Int) t1, nv, .str sub t2, .ref pl, .ref x] ((pl, listOf its.toArray n) :: (mu ++ (im ++ fr)))
      (AdvPost prog w im fr x hx vd lg pl (adv (.nd (.len j)) rest k sub pile H).1 (adv (.nd (.len j)) rest k sub pile H).2.1 (adv (.nd (.len j)) rest k sub pile H).2.2) := by
  unfold Does
  intro dp un gd cn cs aa ccd cl outer A₀ base h₀ L m s Q E B F X N T hkk hdp hun hret
  have hz1 := hp.length
  have hoffs := hh.offs ho hof hpl
  cases hnv with
  | mk hnv =>
  cases hi with
  | len hm hl =>
  refine wpAny_call ?_
  k_dflt ktr_enter
  k_steps
  all_goals (with_reducible rename News h₀ L _ _ => kN)
  all_goals (try simp only [List.push_toArray] at kN)
  all_goals first
    | refine hret _ _ _ _ (by assumption) kN (advEnd (e := [_, _]) hh ho hs ?_ ?_ ?_)
    | refine hret _ _ _ _ (by assumption) kN (advEnd (e := [_, _, _]) hh ho hs ?_ ?_ ?_)
    | refine hret _ _ _ _ (by assumption) kN (advEnd (e := [_, _, _, _]) hh ho hs ?_ ?_ ?_)
    | refine hret _ _ _ _ (by assumption) kN (advEnd (e := [_, _, _, _, _]) hh ho hs ?_ ?_ ?_)
    | refine hret _ _ _ _ (by assumption) kN (advEnd (e := [_, _, _, _, _, _]) hh ho hs ?_ ?_ ?_)
    | refine hret _ _ _ _ (by assumption) kN (advEnd (e := [_]) hh ho hs ?_ ?_ ?_)
    | refine hret _ _ _ _ (by assumption) kN (advEnd (e := []) hh ho hs ?_ ?_ ?_)
  all_goals first
    | exact hp.mono fun q hq => List.mem_append_right _ hq
    | exact wayOut_yes (nd := .len j) (sub := sub) (k := k) (H := H) (.head _) (hr.mono fun q hq => List.mem_append_right _ hq) (.mk (List.mem_append_right _ hnv)) (by
        simp only [endOf]
        first
          | exact ⟨_, rfl, rfl⟩
          | exact ⟨_, if_pos (by assumption), by omega⟩
          | exact ⟨_, if_pos (by omega), by omega⟩
          | exact ⟨_, if_pos ⟨by omega, by assumption⟩, by omega⟩)
    | exact wayOut_no (nd := .len j) (sub := sub) (k := k) (H := H) (by
        simp only [endOf]
        first
          | exact if_neg (ne_true_of_eq_false (by assumption))
          | exact if_neg (by omega)
          | exact if_neg fun h => absurd h.2 (ne_true_of_eq_false (by assumption)))
    | (simp only [OverP]; repeat' (first | exact trivial | tbn_find | (refine ltN ?_; omega) | apply And.intro))
theorem adv_does {im mu fr : Led} {x hx vd lg pl c : Addr} {H : HS} {hv rv nv : Value} {nc n : Nat} {i : It} {rest : List It} {k : Nat} {t1 t2 : Tok} {sub : Str} {its : List Value} {pile : List (List It × Nat)}
    (hc : (c, tup #[hv, rv] nc) ∈ im) (hi : ItIn im hv i) (hsu : supp i H = true) (hr : ChainIn im rv rest) (hnv : NilIn im nv) (hh : HostIn prog w im x hx vd lg mu H) (hp : PileIn im its pile) (ho : Off pl im) (hof : Off pl fr) (hs : Sep fr im) (hsh : SepH fr hx vd lg) (hpl : pl ≠ hx ∧ pl ≠ vd ∧ pl ≠ lg) (hk : k ≤ 1000) (hsub : sub.length ≤ 1000) (hz : pile.length ≤ 1000) (hlog : H.log.length ≤ 9999) :
    Does prog w (KK w.params) p loose mean mg mb 418 40 400 [.ref c, .int (k : Int) t1, nv, .str sub t2, .ref pl, .ref x] ((pl, listOf its.toArray n) :: (mu ++ (im ++ fr)))
      (AdvPost prog w im fr x hx vd lg pl (adv i rest k sub pile H).1 (adv i rest k sub pile H).2.1 (adv i rest k sub pile H).2.2) := by
  cases i with
  | endNow nm b => exact adv_endNow hc hi hr hnv hh hp ho hof hs hsh hpl hk hsub hz hlog
  | nd y =>
    cases hi with
    | nd hi =>
      cases y
      all_goals first
        | exact absurd hsu Bool.false_ne_true
        | exact adv_cat hc hi hr hnv hh hp ho hof hs hsh hpl hk hsub hz hlog
        | exact adv_now hc hi hr hnv hh hp ho hof hs hsh hpl hk hsub hz hlog
        | exact adv_cursor hc hi hr hnv hh hp ho hof hs hsh hpl hk hsub hz hlog
        | exact adv_fail hc hi hr hnv hh hp ho hof hs hsh hpl hk hsub hz hlog
        | exact adv_len hc hi hr hnv hh hp ho hof hs hsh hpl hk hsub hz hlog
        | exact adv_notanyD hc hi hsu hr hnv hh hp ho hof hs hsh hpl hk hsub hz hlog
end
end Mine
end
section
open PySem PySem.Spec PySem.Calls PySem.W PyProof.Rows
open Mine
local macro_rules | `(tactic| walk_at "exec While") => `(tactic| (k_here; refine stop_intro ?_))
local macro_rules | `(tactic| walk_at "call builtin:len") => `(tactic| (k_here; (with_reducible show wpAny _ _ (call (Value.builtin "len") [Value.ref _]) _ _ _); k_dflt (refine' len_led ?k1 ?k2 ?k3 ?_; (case k1 => k_asm); (case k2 => k_mem); (case k3 => (first | omega | (simp only [List.length_append, List.length_cons, List.length_nil]; omega))); k_whole)))
local macro_rules | `(tactic| walk_at "call builtin:list.pop") => `(tactic| (k_here; (with_reducible show wpAny _ _ (call (Value.builtin _) [Value.ref _]) _ _ _); k_dflt (refine' pop_led ?k1 ?k2 ?k3 ?k4 ?_; (case k1 => k_asm); (case k2 => k_asm); (case k3 => k_upd); (case k4 => omega)); intro h' F' N'; (try k_sweep)))
local macro_rules | `(tactic| walk_at "call ref") => `(tactic| (k_here; (with_reducible show wpAny _ _ (call (Value.ref 233) _) _ _ _); k_dflt (refine' Does.use (step_does ?hh ?hsp ?hsh ?hs) ?k1 ?k2 ?k3 ?k4 ?k5 ?k6 ?k7 ?k8 ?k9 ?_; (case hh => assumption); (case hsp => assumption); (case hsh => assumption); (case hs => assumption); (case k1 => k_asm); (case k2 => k_asm); (case k3 => k_asm); (case k4 => k_asm); (case k5 => k_asm); (case k6 => exact rfl); (case k7 => (intro q hq; simp only [List.mem_cons, List.mem_append] at hq ⊢; rcases hq with h | h | h | h <;> simp [h])); (case k8 => ktr_room); (case k9 => ktr_units); k_whole); (intro r' led' h' tk' F' N' P'); (obtain ⟨mu', Pm, Ph, Pe⟩ := P'); (subst Pe); (replace N' := News.sub N' Pm); clear Pm; (try dsimp only); (try k_sweep)))
local macro_rules | `(tactic| walk_at "call ref") => `(tactic| (k_here; (with_reducible show wpAny _ _ (call (Value.ref 418) _) _ _ _); refine stop_intro ?_))
local macro_rules | `(tactic| walk_at "compareOp Eq ref str") => `(tactic| (k_here; (with_reducible show wpAny _ _ (compareOp CmpOp.Eq (Value.ref _) (Value.str _ _)) _ _ _); k_dflt (refine' eq_tup_str ?k1 ?k2 ?k3 ?_; (case k1 => k_asm); (case k2 => k_mem); (case k3 => ktr_units); k_whole)))
section
open PySem PySem.Spec PySem.Calls PySem.W PyProof.Rows
namespace Mine
section
variable {prog : Program} {w : World} {p : Program} {loose : List Str} {mean : ExcName → Option Value} {mg mb : Str → Option Value}
set_option maxRecDepth 100000
set_option maxHeartbeats 4000000
theorem tried_does {im mu fr : Led} {x hx vd lg : Addr} {H H' : HS} {nv : Value} {nd : Nd} {b fuel : Nat} {t1 t2 : Tok} {sub : Str} {res : Option Nat}
    (hn : NodeIn im nv nd) (hh : HostIn prog w im x hx vd lg mu H) (hs : Sep fr im) (hsh : SepH fr hx vd lg) (hb : b ≤ 1000) (hsub : sub.length ≤ 1000) (hgo : go sub fuel (some ([.nd nd], b)) [] H = some (res, H')) :
    Does prog w (KK w.params) p loose mean mg mb 411 80 800 [nv, .str sub t1, .int (b : Int) t2, .ref x] (mu ++ (im ++ fr)) (TriedPost prog w im fr x hx vd lg res H') := by
  unfold Does
  intro dp un gd cn cs aa ccd cl outer A₀ base h₀ L m s Q E B F X N T hkk hdp hun hret
  refine wpAny_call ?_
  k_dflt ktr_enter
  k_steps
  rename_i pl _ l1 _ kF kN
  unfold Stop
  have hoff : ∀ q ∈ mu ++ (im ++ fr), q.1 ≠ pl := fun q hq => Nat.ne_of_lt (allLt_mem l1.2.2.2 q hq)
  have hpl : pl ≠ hx ∧ pl ≠ vd ∧ pl ≠ lg := by
    cases hh with
    | mk => exact ⟨fun e => hoff _ (.head _) e.symm, fun e => hoff _ (.tail _ (.head _)) e.symm, fun e => hoff _ (.tail _ (.tail _ (.head _))) e.symm⟩
  have hof : Off pl fr := fun q hq => hoff q (List.mem_append_right _ (List.mem_append_right _ hq))
  have hoim : Off pl im := fun q hq => hoff q (List.mem_append_right _ (List.mem_append_left _ hq))
  have kN2 := News.sub (l' := (pl, _) :: (mu ++ (([_, _, _] ++ im) ++ fr))) kN mem_shuf2
  refine While_inv2 (JO prog w im fr x hx vd lg pl sub t1 res H') kF (n₀ := fuel + 1) kN2 ⟨mu, _, [_], 0, [([.nd nd], b)], H, rfl, fun q hq => List.mem_append_right _ hq,
    Off.cons (Nat.ne_of_lt l1.1) (Off.cons (Nat.ne_of_lt l1.2.1) (Off.cons (Nat.ne_of_lt l1.2.2.1) hoim)), OverA.sep (mu := mu) (im0 := im) hs ?_, .snoc (l := []) (.mk (.head _) (.cons (.tail _ (.tail _ (.head _))) (.nd (hn.mono fun q hq => List.mem_append_right _ hq)) .nil) (.mk (.tail _ (.head _)))) .nil, hh.growsA (im0 := im ++ fr) ?_, ?_, rfl, rfl, rfl⟩ ?_ ?_
  · simp only [OverA]
    repeat' (first | exact trivial | tbn_find | exact allLt_of (by assumption) | apply And.intro)
  · simp only [OverA]
    repeat' (first | exact trivial | tbn_find | exact allLt_of (by assumption) | apply And.intro)
  · exact hgo
  · rintro n m₁ news₁ h₁ tk₁ F₁ N₁ ⟨mu1, im1, its, c, pile, H1, rfl, hsub1, ho1, hs1, hp1, hh1, hgo1, e1, e2, e3⟩
    have F₂ := Fr.known3 F₁ e1 e2 e3
    clear F₁ l1 hoff kF kN
    have hoffs := hh1.offs ho1 hof hpl
    have hs1' := Sep.cons (o := listOf its.toArray c) ho1 hs1
    cases hp1 with
    | nil =>
      obtain ⟨rfl, rfl⟩ := go_end hgo1
      k_steps
      exact hret _ _ _ _ (by assumption) (by assumption) ⟨mu1, im1, fun q hq => .tail _ hq, hsub1, hs1, hh1, .none⟩
    | @snoc l v i r hw hp1 =>
      cases hw with
      | @mk a na u v' k1 t r1 hm hc hnn =>
      have hz0 := hp1.length
      obtain ⟨n, rfl, hz1, hgo2⟩ := go_pop hgo1
      have hz2 : (l ++ [Value.ref a]).length = l.length + 1 := by simp
      k_steps
      · rename_i kF kN
        unfold Stop
        refine While_inv2 (JI n prog w im fr x hx vd lg pl sub t1 res H') kF (n₀ := n) kN ⟨Nat.le_refl _, mu1, im1, l, c + 1, r, H1, r1, k1, u, v', t, rfl, hsub1, ho1, hs1, hp1, hh1, hgo2, hc, hnn, rfl, rfl, rfl, rfl, rfl, rfl⟩ ?_ ?_
        · rintro n2 m₂ news₂ h₂ tk₂ F₃ N₃ ⟨hle, mu2, im2, its2, c2, pile2, H2, ch2, k2, cv2, nv2, t2', rfl, hsub2, ho2, hs2, hp2, hh2, hgo3, hc2, hnn2, e11, e12, e13, e14, e15, e16⟩
          have F₄ := Fr.known6 F₃ e11 e12 e13 e14 e15 e16
          clear F₃ kF kN hh1 hs1' hs1 hoffs hs
          have hoffs := hh2.offs ho2 hof hpl
          have hs2' := Sep.cons (o := listOf its2.toArray c2) ho2 hs2
          have hsh' := SepH.cons (a := pl) (o := listOf its2.toArray c2) hpl hsh
          clear hs2 hsh hh
          cases hc2 with
          | nil =>
            obtain ⟨rfl, rfl⟩ := go_done hgo3
            cases hnn2 with
            | mk hnn2 =>
            k_steps
            refine ws_ret ?_
            dsimp only
            k_steps
            (with_reducible rename News h₀ L _ _ => kN)
            refine hret _ _ _ _ (by assumption) kN ⟨mu2, [_, _] ++ im2, mem_shuf3 (e := [_, _]), fun q hq => List.mem_append_right _ (hsub2 q hq), OverA.sep (mu := mu2) (im0 := im2) (fun f hf => hs2' f (.tail _ hf)) ?_, hh2.growsA (im0 := im2 ++ fr) ?_, .some (.head _) (.tail _ (.head _))⟩
            · simp only [OverA]
              repeat' (first | exact trivial | tbn_find | exact allLt_of (by assumption) | apply And.intro)
            · simp only [OverA]
              repeat' (first | exact trivial | tbn_find | exact allLt_of (by assumption) | apply And.intro)
          | @cons cc nn uu vv ii rr hcm hci hcr =>
            obtain ⟨n3, rfl, hsup, hk1, hst, hlg, hpz, hgo4⟩ := go_step hgo3
            k_steps
            unfold Stop
            refine Does.use (adv_does (n := c2) (H := H2.step) hcm hci hsup hcr hnn2 (by assumption) hp2 ho2 hof (fun f hf => hs2' f (.tail _ hf)) (fun f hf => hsh' f (.tail _ hf)) hpl hk1 hsub hpz hlg) (by assumption) (by assumption) (by assumption) (by assumption) (by assumption) rfl ?_ (by ktr_room) (by ktr_units) ?_
            · intro q hq
              simp only [List.mem_cons, List.mem_append] at hq ⊢
              rcases hq with h | h | h | h <;> simp [h]
            · intro r5 news5 h5 tk5 F5 N5 P5
              obtain ⟨mu5, im5, its5, c5, hm5, hsub5, ho5, hs5, hp5, hh5, hw5⟩ := P5
              replace N5 := News.sub N5 hm5
              clear hm5
              k_sweep
              generalize (adv ii rr k2 sub pile2 H2.step).1 = oo at hw5 hgo4
              generalize (adv ii rr k2 sub pile2 H2.step).2.1 = pp at hp5 hgo4
              generalize (adv ii rr k2 sub pile2 H2.step).2.2 = HH at hh5 hgo4
              cases hw5 with
              | none =>
                k_steps
                refine ws_brk ?_
                dsimp only
                k_steps
                exact ws_next (n' := n3) (by assumption) (by assumption) (by omega) ⟨mu5, im5, its5, c5, pp, HH, rfl, fun q hq => hsub5 q (hsub2 q hq), ho5, hs5, hp5, hh5, hgo4, rfl, rfl, rfl⟩
              | some hw5 =>
                cases hw5 with
                | @mk a6 n6 u6 v6 k6 t6 r6 hm6 hc6 hnn6 =>
                k_steps
                exact ws_next (n' := n3) (by assumption) (by assumption) (by omega) ⟨by omega, mu5, im5, its5, c5, pp, HH, r6, k6, u6, v6, t6, rfl, fun q hq => hsub5 q (hsub2 q hq), ho5, hs5, hp5, hh5, hgo4, hc6, hnn6, rfl, rfl, rfl, rfl, rfl, rfl⟩
        · first | passes_own | with_unfolding_all passes_own
  · first | passes_own | with_unfolding_all passes_own
end
end Mine
end
section
open PySem PySem.Spec PySem.Calls PySem.W PyProof.Rows
open Mine
local macro_rules | `(tactic| walk_at "call type:range") => `(tactic| (k_here; (with_reducible show wpAny _ _ (call (Value.type "range") [Value.int _ _]) _ _ _); k_dflt (refine' range1_N ?k1 ?k2 ?_; (case k1 => k_asm); (case k2 => k_asm); k_whole); intro r' h' tk' t1' t2' F' N' l1; (try k_lt l1); (try k_sweep)))
local macro_rules | `(tactic| walk_at "pyIter ref") => `(tactic| (k_here; refine stop_intro ?_))
local macro_rules | `(tactic| walk_at "call ref") => `(tactic| (k_here; (with_reducible show wpAny _ _ (call (Value.ref 411) _) _ _ _); refine stop_intro ?_))
local macro_rules | `(tactic| walk_at "call ref") => `(tactic| (k_here; (with_reducible show wpAny _ _ (call (Value.ref 404) _) _ _ _); refine stop_intro ?_))
section
open PySem PySem.Spec PySem.Calls PySem.W PyProof.Rows
namespace Mine
section
variable {prog : Program} {w : World} {p : Program} {loose : List Str} {mean : ExcName → Option Value} {mg mb : Str → Option Value}
set_option maxRecDepth 100000
set_option maxHeartbeats 4000000
theorem match_at_does {im mu fr : Led} {x hx vd lg : Addr} {H H' : HS} {nv : Value} {nd : Nd} {b fuel : Nat} {t1 t2 : Tok} {sub : Str} {res : Option Nat}
    (hn : NodeIn im nv nd) (hh : HostIn prog w im x hx vd lg mu H) (hs : Sep fr im) (hsh : SepH fr hx vd lg) (hb : b ≤ 1000) (hsub : sub.length ≤ 1000) (hgo : go sub fuel (some ([.nd nd], b)) [] H = some (res, H')) :
    Does prog w (KK w.params) p loose mean mg mb 404 90 900 [nv, .str sub t1, .int (b : Int) t2, .ref x] (mu ++ (im ++ fr)) (MatchPost prog w im fr x hx vd lg (res.map fun k => (b, k)) H') := by
  unfold Does
  intro dp un gd cn cs aa ccd cl outer A₀ base h₀ L m s Q E B F X N T hkk hdp hun hret
  refine wpAny_call ?_
  k_dflt ktr_enter
  k_steps
  unfold Stop
  refine Does.use (tried_does hn hh hs hsh hb hsub hgo) (by assumption) (by assumption) (by assumption) (by assumption) (by assumption) rfl (fun q hq => hq) (by ktr_room) (by ktr_units) ?_
  intro r5 news5 h5 tk5 F5 N5 P5
  obtain ⟨mu5, im5, hm5, hsub5, hs5, hh5, hf5⟩ := P5
  replace N5 := News.sub N5 hm5
  clear hm5
  k_sweep
  cases hf5 with
  | none =>
    k_steps
    exact hret _ _ _ _ (by assumption) (by assumption) ⟨mu5, im5, fun q hq => hq, hsub5, hs5, hh5, .none⟩
  | some ha hl =>
    k_steps
    (with_reducible rename News h₀ L _ _ => kN)
    exact hret _ _ _ _ (by assumption) kN ⟨mu5, _ :: im5, mem_one, fun q hq => .tail _ (hsub5 q hq), Sep.up (allLt_app (allLt_app (allLt_of (by assumption)))) hs5, hh5.grow (im0 := im5 ++ fr) (allLt_of (by assumption)), .some (.head _) (.tail _ hl)⟩
theorem match_plain_does {im mu fr : Led} {x hx vd lg : Addr} {H H' : HS} {nv : Value} {nd : Nd} {fuel : Nat} {anch : Bool} {t1 : Tok} {sub : Str} {res : Option (Nat × Nat)}
    (hn : NodeIn im nv nd) (hh : HostIn prog w im x hx vd lg mu H) (hs : Sep fr im) (hsh : SepH fr hx vd lg) (hsub : sub.length ≤ 1000) (hgo : mloop sub nd fuel (if anch then 1 else sub.length + 1) 0 H = some (res, H')) :
    Does prog w (KK w.params) p loose mean mg mb 397 100 1000 [nv, .str sub t1, .bool anch, .ref x] (mu ++ (im ++ fr)) (MatchPost prog w im fr x hx vd lg res H') := by
  unfold Does
  intro dp un gd cn cs aa ccd cl outer A₀ base h₀ L m s Q E B F X N T hkk hdp hun hret
  refine wpAny_call ?_
  k_dflt ktr_enter
  have cnt1 : (if anch then 1 else sub.length + 1) ≤ 2000 := by split <;> omega
  generalize hcn : (if anch then 1 else sub.length + 1) = cnt at cnt1 hgo
  cases anch with
  | true =>
    k_steps
    rename_i kF kN l1
    unfold Stop
    refine range_loop (JM prog w im fr x hx vd lg nv sub t1 nd fuel res H' cnt) rfl kF kN (.head _) (small_one (by omega) (by omega) (by omega) (by omega)) cnt (by rw [rangeSize_nat]; simp at hcn; omega) (fun q hq => .tail _ hq) ⟨mu, im, H, rfl, fun _ h => h, hs, hh, Nat.zero_le _, hgo, rfl, rfl, rfl⟩ ?_ ?_
    · rintro i ti m₁ news₁ I ro h₁ tk₁ hi hoI ⟨mu1, im1, H1, rfl, hsub1, hs1, hh1, hle, hml, e1, e2, e3⟩ F₁ N₁
      rw [known3_eq e1 e2 e3] at F₁
      clear kF kN hh hs
      have hI := hh1.addrs hoI
      have hoi : Off I im1 := fun q hq => hoI q (List.mem_append_right _ (List.mem_append_left _ hq))
      have hof : Off I fr := fun q hq => hoI q (List.mem_append_right _ (List.mem_append_right _ hq))
      obtain ⟨c, hc⟩ : ∃ c, cnt - i = c + 1 := ⟨cnt - i - 1, by omega⟩
      rw [hc] at hml
      obtain ⟨r1, H2, hg1, hres⟩ := mloop_turn hml
      have eI : (0 : Int) + (i : Int) = (i : Int) := by omega
      rw [eI] at F₁
      k_steps
      unfold Stop
      refine Does.use (match_at_does (fr := (I, ro) :: fr) (hn.mono hsub1) hh1 (Sep.cons hoi hs1) (SepH.cons hI hsh) (by simp at hcn; omega) hsub hg1) (by assumption) (by assumption) (by assumption) (by assumption) (by assumption) rfl ?_ (by ktr_room) (by ktr_units) ?_
      · intro q hq
        simp only [List.mem_cons, List.mem_append] at hq ⊢
        rcases hq with h | h | h | h <;> simp [h]
      · intro r5 news5 h5 tk5 F5 N5 P5
        obtain ⟨mu5, im5, hm5, hsub5, hs5, hh5, hf5⟩ := P5
        replace N5 := News.sub N5 hm5
        clear hm5
        k_sweep
        have hoff5 := hh5.offs (hs5 _ (.head _)) hof hI
        rcases hres with ⟨rfl, hrest⟩ | ⟨k5, rfl, rfl, rfl⟩
        · cases hf5 with
          | none =>
            k_steps
            (with_reducible rename News _ _ _ _ => kN)
            refine rs_next (by assumption) (News.sub kN ?_) hoff5 ⟨mu5, im5, H2, rfl, fun q hq => hsub5 q (hsub1 q hq), fun f hf => hs5 f (.tail _ hf), hh5, by omega, ?_, rfl, rfl, rfl⟩
            · intro q hq
              simp only [List.mem_cons, List.mem_append] at hq ⊢
              rcases hq with h | h | h | h <;> simp [h]
            · have : cnt - (i + 1) = c := by omega
              rw [this]; exact hrest
        · cases hf5 with
          | some ha hl =>
            k_steps
            refine rs_ret ?_
            dsimp only
            k_steps
            (with_reducible rename News h₀ L _ _ => kN)
            exact hret _ _ _ _ (by assumption) kN ⟨mu5, im5, fun q hq => (by
              simp only [List.mem_cons, List.mem_append] at hq ⊢
              rcases hq with h | h | h <;> simp [h]), fun q hq => hsub5 q (hsub1 q hq), fun f hf => hs5 f (.tail _ hf), hh5, .some ha hl⟩
    · rintro m₁ news₁ h₁ tk₁ ⟨mu1, im1, H1, rfl, hsub1, hs1, hh1, hle, hml, e1, e2, e3⟩ F₁ N₁
      rw [Nat.sub_self] at hml
      unfold mloop at hml
      cases hml
      k_steps
      exact hret _ _ _ _ (by assumption) (by assumption) ⟨mu1, im1, fun q hq => hq, hsub1, hs1, hh1, .none⟩
  | false =>
    k_steps
    rename_i kF kN l1
    unfold Stop
    refine range_loop (JM prog w im fr x hx vd lg nv sub t1 nd fuel res H' cnt) rfl kF kN (.head _) (small_one (by omega) (by omega) (by omega) (by omega)) cnt (by rw [rangeSize_nat]; simp at hcn; omega) (fun q hq => .tail _ hq) ⟨mu, im, H, rfl, fun _ h => h, hs, hh, Nat.zero_le _, hgo, rfl, rfl, rfl⟩ ?_ ?_
    · rintro i ti m₁ news₁ I ro h₁ tk₁ hi hoI ⟨mu1, im1, H1, rfl, hsub1, hs1, hh1, hle, hml, e1, e2, e3⟩ F₁ N₁
      rw [known3_eq e1 e2 e3] at F₁
      clear kF kN hh hs
      have hI := hh1.addrs hoI
      have hoi : Off I im1 := fun q hq => hoI q (List.mem_append_right _ (List.mem_append_left _ hq))
      have hof : Off I fr := fun q hq => hoI q (List.mem_append_right _ (List.mem_append_right _ hq))
      obtain ⟨c, hc⟩ : ∃ c, cnt - i = c + 1 := ⟨cnt - i - 1, by omega⟩
      rw [hc] at hml
      obtain ⟨r1, H2, hg1, hres⟩ := mloop_turn hml
      have eI : (0 : Int) + (i : Int) = (i : Int) := by omega
      rw [eI] at F₁
      k_steps
      unfold Stop
      refine Does.use (match_at_does (fr := (I, ro) :: fr) (hn.mono hsub1) hh1 (Sep.cons hoi hs1) (SepH.cons hI hsh) (by simp at hcn; omega) hsub hg1) (by assumption) (by assumption) (by assumption) (by assumption) (by assumption) rfl ?_ (by ktr_room) (by ktr_units) ?_
      · intro q hq
        simp only [List.mem_cons, List.mem_append] at hq ⊢
        rcases hq with h | h | h | h <;> simp [h]
      · intro r5 news5 h5 tk5 F5 N5 P5
        obtain ⟨mu5, im5, hm5, hsub5, hs5, hh5, hf5⟩ := P5
        replace N5 := News.sub N5 hm5
        clear hm5
        k_sweep
        have hoff5 := hh5.offs (hs5 _ (.head _)) hof hI
        rcases hres with ⟨rfl, hrest⟩ | ⟨k5, rfl, rfl, rfl⟩
        · cases hf5 with
          | none =>
            k_steps
            (with_reducible rename News _ _ _ _ => kN)
            refine rs_next (by assumption) (News.sub kN ?_) hoff5 ⟨mu5, im5, H2, rfl, fun q hq => hsub5 q (hsub1 q hq), fun f hf => hs5 f (.tail _ hf), hh5, by omega, ?_, rfl, rfl, rfl⟩
            · intro q hq
              simp only [List.mem_cons, List.mem_append] at hq ⊢
              rcases hq with h | h | h | h <;> simp [h]
            · have : cnt - (i + 1) = c := by omega
              rw [this]; exact hrest
        · cases hf5 with
          | some ha hl =>
            k_steps
            refine rs_ret ?_
            dsimp only
            k_steps
            (with_reducible rename News h₀ L _ _ => kN)
            exact hret _ _ _ _ (by assumption) kN ⟨mu5, im5, fun q hq => (by
              simp only [List.mem_cons, List.mem_append] at hq ⊢
              rcases hq with h | h | h <;> simp [h]), fun q hq => hsub5 q (hsub1 q hq), fun f hf => hs5 f (.tail _ hf), hh5, .some ha hl⟩
    · rintro m₁ news₁ h₁ tk₁ ⟨mu1, im1, H1, rfl, hsub1, hs1, hh1, hle, hml, e1, e2, e3⟩ F₁ N₁
      rw [Nat.sub_self] at hml
      unfold mloop at hml
      cases hml
      k_steps
      exact hret _ _ _ _ (by assumption) (by assumption) ⟨mu1, im1, fun q hq => hq, hsub1, hs1, hh1, .none⟩
end
end Mine
end
section
open PySem PySem.Spec PySem.Calls PySem.W PyProof.Rows
open Mine
local macro_rules | `(tactic| walk_at "callWith ref") => `(tactic| (k_here; k_dflt (refine' callWith_F ?k1 ?_; (case k1 => exact FnAt.of (by k_asm) (by k_mem)); k_whole)))
local macro_rules | `(tactic| walk_at "getAttr ref") => `(tactic| (k_here; k_dflt (refine' hostA ?hh ?k1 ?k2 ?k3 ?hs ?k5 ?k6 ?k7 ?k8 ?k9 ?k10 ?k11 ?k12 ?_; (case hh => assumption); (case k1 => k_asm); (case k2 => k_asm); (case k3 => k_asm); (case hs => (intro q hq; simp only [List.mem_cons, List.mem_append] at hq ⊢; rcases hq with h | h <;> simp [h])); (case k5 => k_is); (case k6 => k_is); (case k7 => k_is); (case k8 => k_is); (case k9 => k_is); (case k10 => k_is); (case k11 => decide +kernel); (case k12 => (intros; rfl)); k_whole); intro q' h' F' N' l1; (try k_lt l1); (try k_sweep)))
local macro_rules | `(tactic| walk_at "exec For") => `(tactic| (k_here; (with_reducible show wpAny _ _ (exec (Stmt.For (PySem.Expr.Tuple _ _ _) _ _ _ _) _) _ _ _); (with_unfolding_all refine' For_turns ?F ?_; (case F => k_asm))))
local macro_rules | `(tactic| walk_at "call ref") => `(tactic| (k_here; (with_reducible show wpAny _ _ (call (Value.ref _) [Value.ref _]) _ _ _); refine stop_intro ?_))
section
open PySem PySem.Spec PySem.Calls PySem.W PyProof.Rows
namespace Mine
local macro_rules | `(tactic| walk_at "call ref") => `(tactic| (k_here; (with_reducible show wpAny _ _ (call (Value.ref 397) _) _ _ _); refine stop_intro ?_))
section
variable {prog : Program} {w : World} {p : Program} {loose : List Str} {mean : ExcName → Option Value} {mg mb : Str → Option Value}
set_option maxRecDepth 100000
set_option maxHeartbeats 4000000
theorem replace_once_does {im mu fr : Led} {x hx vd lg tf : Addr} {H H' : HS} {nv : Value} {nd : Nd} {fuel : Nat} {anch : Bool} {t1 : Tok} {sub txt : Str} {res : Option (Nat × Nat)} {oc : Value} {od : Option Addr} {fd : FuncData} {sl : Array (Option Value)}
    (hn : NodeIn im nv nd) (hh : HostIn prog w im x hx vd lg mu H) (hs : Sep fr im) (hsh : SepH fr hx vd lg) (hsub : sub.length ≤ 1000) (htxt : txt.length ≤ 1000) (hgo : mloop sub nd fuel (if anch then 1 else sub.length + 1) 0 H = some (res, H'))
    (htf : (tf, (⟨oc, od, .func fd, sl⟩ : Obj)) ∈ im) (hT : res ≠ none → ∀ mu' im', (∀ q ∈ im, q ∈ im') → Sep fr im' → HostIn prog w im' x hx vd lg mu' H' → Does prog w (KK w.params) p loose mean mg mb tf 50 500 [.ref x] (mu' ++ (im' ++ fr)) (TextPost prog w im' fr x hx vd lg txt H')) :
    Does prog w (KK w.params) p loose mean mg mb 42 120 1200 [.ref 397, nv, .str sub t1, .bool anch, .ref x, .ref tf] (mu ++ (im ++ fr)) (RoPost prog w im fr x hx vd lg (res.map fun r => splice sub r.1 r.2 txt) H') := by
  unfold Does
  intro dp un gd cn cs aa ccd cl outer A₀ base h₀ L m s Q E B F X N T hkk hdp hun hret
  refine wpAny_call ?_
  k_dflt ktr_enter
  k_steps
  unfold Stop
  refine Does.use (match_plain_does hn hh hs hsh hsub hgo) (by assumption) (by assumption) (by assumption) (by assumption) (by assumption) rfl (fun q hq => hq) (by ktr_room) (by ktr_units) ?_
  intro r5 news5 h5 tk5 F5 N5 P5
  obtain ⟨mu5, im5, hm5, hsub5, hs5, hh5, hf5⟩ := P5
  replace N5 := News.sub N5 hm5
  clear hm5
  k_sweep
  cases hf5 with
  | none =>
    k_steps
    exact hret _ _ _ _ (by assumption) (by assumption) ⟨mu5, im5, fun q hq => hq, hsub5, hs5, hh5, .none⟩
  | some ha hl =>
    have htf5 := hsub5 _ htf
    clear hh
    k_steps
    (with_reducible rename Fr _ _ _ _ => kF)
    (with_reducible rename News _ _ _ _ => kN)
    unfold Stop
    refine list_turns (vs := []) (fun _ m' l' => l' = _ ∧ m' = _) rfl kF kN (by k_mem) (fun q hq => hq) ⟨rfl, rfl⟩ ?_ ?_
    · intro i v m₁ news₁ I ro h₁ tk₁ hv
      exact absurd hv (by simp)
    · rintro m₁ news₁ h₁ tk₁ ⟨rfl, rfl⟩ F₁ N₁
      k_steps
      unfold Stop
      refine Does.use (hT (by simp) mu5 im5 hsub5 hs5 hh5) (by assumption) (by assumption) (by assumption) (by assumption) (by assumption) rfl (fun q hq => .tail _ hq) (by ktr_room) (by ktr_units) ?_
      intro r7 news7 h7 tk7 F7 N7 P7
      obtain ⟨mu7, im7, hm7, hsub7, hs7, hh7, t7, rfl⟩ := P7
      replace N7 := News.sub N7 hm7
      clear hm7 hh5
      k_sweep
      have ha7 := hsub7 _ ha
      clear ha
      k_steps
      (with_reducible rename News h₀ L _ _ => kN)
      exact hret _ _ _ _ (by assumption) kN ⟨mu7, im7, fun q hq => .tail _ hq, fun q hq => hsub7 q (hsub5 q hq), hs7, hh7, .some⟩
end
end Mine
end
section
open PySem PySem.Spec PySem.Calls PySem.W PyProof.Rows
namespace Mine
local macro_rules | `(tactic| walk_at "no such key") => `(tactic| fail)
local macro_rules | `(tactic| walk_at "call ref") => `(tactic| (k_here; (with_reducible show wpAny _ _ (call (Value.ref 42) _) _ _ _); refine stop_intro ?_))
section
variable {prog : Program} {w : World} {p : Program} {loose : List Str} {mean : ExcName → Option Value} {mg mb : Str → Option Value}
set_option maxRecDepth 100000
set_option maxHeartbeats 4000000
theorem replace_often_does {im mu fr : Led} {x hx vd lg tf : Addr} {H H' : HS} {nv : Value} {nd : Nd} {fuel most : Nat} {anch : Bool} {t1 tm : Tok} {sub : Str} {tok : HS → Bool} {txt : HS → Str} {res : Str × Nat} {oc : Value} {od : Option Addr} {fd : FuncData} {sl : Array (Option Value)}
    (hn : NodeIn im nv nd) (hh : HostIn prog w im x hx vd lg mu H) (hs : Sep fr im) (hsh : SepH fr hx vd lg) (hgo : roften nd anch fuel tok txt most 0 sub H = some (res, H'))
    (htf : (tf, (⟨oc, od, .func fd, sl⟩ : Obj)) ∈ im) (hT : ∀ H1, tok H1 = true → ∀ mu' im', (∀ q ∈ im, q ∈ im') → Sep fr im' → HostIn prog w im' x hx vd lg mu' H1 → Does prog w (KK w.params) p loose mean mg mb tf 50 500 [.ref x] (mu' ++ (im' ++ fr)) (TextPost prog w im' fr x hx vd lg (txt H1) H1)) :
    Does prog w (KK w.params) p loose mean mg mb 49 140 1400 [.ref 397, nv, .str sub t1, .bool anch, .ref x, .ref tf, .int (most : Int) tm] (mu ++ (im ++ fr)) (RfPost prog w im fr x hx vd lg res H') := by
  unfold Does
  intro dp un gd cn cs aa ccd cl outer A₀ base h₀ L m s Q E B F X N T hkk hdp hun hret
  refine wpAny_call ?_
  k_dflt ktr_enter
  k_steps
  unfold Stop
  (with_reducible rename Fr _ _ _ _ => kF)
  (with_reducible rename News _ _ _ _ => kN)
  obtain ⟨u0, hu0⟩ := Fr.tok kF (Str.ofString "many") (fun t => Value.int ((0 : Nat) : Int) t) ⟨_, rfl⟩
  refine While_inv2 (JR prog w im fr x hx vd lg tf nv nd anch fuel tok txt most tm res H') kF (n₀ := most) kN ⟨mu, im, H, sub, 0, t1, u0, rfl, fun _ h => h, hs, hh, by omega, hgo, ?_⟩ ?_ ?_
  · exact allP_cons rfl (allP_cons rfl (allP_cons rfl (allP_cons rfl (allP_cons rfl (allP_cons rfl (allP_cons rfl (allP_cons hu0 allP_nil)))))))
  · rintro n m₁ news₁ h₁ tk₁ F₁ N₁ ⟨mu1, im1, H1, sub1, many, u1, u2, rfl, hsub1, hs1, hh1, hle, hro, hm1⟩
    rw [knownL _ hm1] at F₁
    clear kF kN hh hs
    cases n with
    | zero =>
      unfold roften at hro
      cases hro
      k_steps
      (with_reducible rename News h₀ L _ _ => kN)
      exact hret _ _ _ _ (by assumption) kN ⟨mu1, _ :: im1, mem_one, fun q hq => .tail _ (hsub1 q hq), Sep.up (allLt_app (allLt_app (allLt_of (by assumption)))) hs1, hh1.grow (im0 := im1 ++ fr) (allLt_of (by assumption)), _, _, _, _, rfl, .head _⟩
    | succ n =>
      obtain ⟨hz, r1, H2, hml, hres⟩ := roften_turn hro
      k_steps
      unfold Stop
      rcases hres with ⟨rfl, rfl, rfl⟩ | ⟨r, rfl, htk, htl, hrest⟩
      · refine Does.use (replace_once_does (txt := Str.ofString "") (hn.mono hsub1) hh1 hs1 hsh hz (by decide) hml (hsub1 _ htf) (fun h => absurd rfl h)) (by assumption) (by assumption) (by assumption) (by assumption) (by assumption) rfl (fun q hq => hq) (by ktr_room) (by ktr_units) ?_
        intro r5 news5 h5 tk5 F5 N5 P5
        obtain ⟨mu5, im5, hm5, hsub5, hs5, hh5, hf5⟩ := P5
        replace N5 := News.sub N5 hm5
        clear hm5
        k_sweep
        cases hf5 with
        | none =>
          k_steps
          refine ws_ret ?_
          dsimp only
          k_steps
          (with_reducible rename News h₀ L _ _ => kN)
          exact hret _ _ _ _ (by assumption) kN ⟨mu5, _ :: im5, mem_one, fun q hq => .tail _ (hsub5 q (hsub1 q hq)), Sep.up (allLt_app (allLt_app (allLt_of (by assumption)))) hs5, hh5.grow (im0 := im5 ++ fr) (allLt_of (by assumption)), _, _, _, _, rfl, .head _⟩
      · refine Does.use (replace_once_does (txt := txt H2) (hn.mono hsub1) hh1 hs1 hsh hz htl hml (hsub1 _ htf) (fun _ mu' im' h1 h2 h3 => hT H2 htk mu' im' (fun q hq => h1 q (hsub1 q hq)) h2 h3)) (by assumption) (by assumption) (by assumption) (by assumption) (by assumption) rfl (fun q hq => hq) (by ktr_room) (by ktr_units) ?_
        intro r5 news5 h5 tk5 F5 N5 P5
        obtain ⟨mu5, im5, hm5, hsub5, hs5, hh5, hf5⟩ := P5
        replace N5 := News.sub N5 hm5
        clear hm5
        k_sweep
        cases hf5 with
        | some =>
          k_steps
          (with_reducible rename Fr _ _ _ _ => kF)
          (with_reducible rename News _ _ _ _ => kN)
          obtain ⟨u3, hu3⟩ := Fr.tok kF (Str.ofString "subject") (fun t => Value.str (splice sub1 r.1 r.2 (txt H2)) t) ⟨_, rfl⟩
          obtain ⟨u4, hu4⟩ := Fr.tok kF (Str.ofString "many") (fun t => Value.int ((many + 1 : Nat) : Int) t) ⟨_, rfl⟩
          exact ws_next (n' := n) kF (News.sub kN fun q hq => .tail _ hq) (by omega) ⟨mu5, im5, H2, _, many + 1, u3, u4, rfl, fun q hq => hsub5 q (hsub1 q hq), hs5, hh5, by omega, hrest,
            allP_cons rfl (allP_cons rfl (allP_cons hu3 (allP_cons rfl (allP_cons rfl (allP_cons rfl (allP_cons rfl (allP_cons hu4 allP_nil)))))))⟩
  · first | passes_own | with_unfolding_all passes_own
end
end Mine
end
end
end
end
end
section
open PySem PySem.Spec PySem.Calls PySem.W PyProof.Rows
namespace Mine
local macro_rules | `(tactic| k_all) => `(tactic| assumption)
local macro_rules | `(tactic| k_mem) => `(tactic| first | assumption | (refine' List.mem_cons_of_mem _ ?_; k_mem))
local macro_rules | `(tactic| k_room) => `(tactic| ktr_room)
section
variable {prog : Program} {w : World} {p : Program} {loose : List Str} {mean : ExcName → Option Value} {mg mb : Str → Option Value}
set_option maxRecDepth 100000
set_option maxHeartbeats 4000000
noncomputable def MkPost (news : Led) (vd rf : Value) (r : Value) (news' : Led) : Prop :=
  ∃ (x hx lg : Nat) (h1 h2 h3 h4 h5 h6 : Int) (t1 t2 t3 t4 t5 t6 u2 u4 u5 : Tok), r = .ref x ∧ news' = (lg, listOf #[] 0) :: (x, instObj 236 hx) :: (hx, dictOf [⟨h1, .str (Str.ofString "values") t1, vd⟩, ⟨h2, .str (Str.ofString "limit") t2, .int 9999 u2⟩, ⟨h3, .str (Str.ofString "refused") t3, rf⟩, ⟨h4, .str (Str.ofString "width") t4, .int 64 u4⟩, ⟨h5, .str (Str.ofString "steps") t5, .int 0 u5⟩, ⟨h6, .str (Str.ofString "log") t6, .ref lg⟩] 6) :: news ∧ x < lg ∧ hx < x ∧ AllLt hx news
theorem mk_does {news : Led} {vd rf : Value} {u2 : Tok} :
    Does prog w (KK w.params) p loose mean mg mb 236 40 400 [vd, .int 9999 u2, rf] news (MkPost news vd rf) := by
  unfold Does
  intro dp un gd cn cs aa ccd cl outer A₀ base h₀ L m s Q E B F X N T hkk hdp hun hret
  k_dflt (refine' call_cls ?k1 ?k2 ?k3 ?k4 ?k5 ?k6 ?_; (case k1 => k_asm); (case k2 => k_asm); (case k3 => k_asm); (case k4 => k_is); (case k5 => k_is); (case k6 => k_is); k_whole; intro x' d' h' F' N' l1 l2; (try k_lt2 l2); (try k_sweep); ktr_enter)
  k_steps
  (with_reducible rename Fr h₀ L _ m => kF)
  (with_reducible rename News h₀ L _ _ => kN)
  (rename _ < _ ∧ _ < _ ∧ AllLt _ _ => l3)
  exact hret _ _ _ _ kF kN ⟨_, _, _, _, _, _, _, _, _, _, _, _, _, _, _, _, _, _, rfl, rfl, l3.1, l2, allLt_of l1⟩
end
end Mine
end
section
open PySem PySem.Spec PySem.Calls PySem.W PyProof.Rows
namespace Mine
local macro_rules | `(tactic| walk_at "no such key") => `(tactic| fail)
local macro_rules | `(tactic| k_all) => `(tactic| assumption)
local macro_rules | `(tactic| k_mem) => `(tactic| first | assumption | (refine' List.mem_cons_of_mem _ ?_; k_mem))
local macro_rules | `(tactic| k_room) => `(tactic| ktr_room)
section
variable {prog : Program} {w : World} {p : Program} {loose : List Str} {mean : ExcName → Option Value} {mg mb : Str → Option Value}
noncomputable abbrev lamPar (ps : Pos) : Arguments := { posonlyargs := [], args := [{ arg := Str.ofString "here", annotation := none, pos := ps }], vararg := none, kwonlyargs := [], kw_defaults := [], kwarg := none, defaults := [] }
noncomputable abbrev lamScope : Scope := { kind := .function, names := [(Str.ofString "here", .local)], isGenerator := false, isCoroutine := false }
set_option maxRecDepth 100000
set_option maxHeartbeats 4000000
theorem lam_does {im mu fr : Led} {x hx vd lg tf cf kk : Addr} {H : HS} {oc : Obj} {vs : Array Value} {qual : Str} {t : Tok} {pm ctv : Value} {txt : Str} {ps ps2 : Pos}
    (hh : HostIn prog w im x hx vd lg mu H) (hs : Sep fr im) (htf : (tf, kla_obj (Str.ofString "<lambda>") qual (lamPar ps) (.Constant (.str txt) kk ps2) lamScope [] pm cf ctv) ∈ im) (hcf : (cf, oc) ∈ im) (d1 : oc.data = .fields vs) (d2 : vs[1]? = some (.str qual t)) :
    Does prog w (KK w.params) p loose mean mg mb tf 50 500 [.ref x] (mu ++ (im ++ fr)) (TextPost prog w im fr x hx vd lg txt H) := by
  unfold Does
  intro dp un gd cn cs aa ccd cl outer A₀ base h₀ L m s Q E B F X N T hkk hdp hun hret
  have htf' := List.mem_append_right mu (List.mem_append_left fr htf)
  have hcf' := List.mem_append_right mu (List.mem_append_left fr hcf)
  refine wpAny_call ?_
  k_dflt (refine' kla_code ?k1 ?k2 ?k3 ?k4 ?k5 ?kA ?kF ?kK ?k6 ?k7 ?k8 ?k9 ?kB ?_ ?c2 ?c3 ?c4 ?c5; (case kA => exact rfl); (case kF => exact rfl); (case kK => assumption); (case k1 => k_asm); (case k2 => k_asm); (case k3 => k_asm); (case k4 => k_asm); (case k5 => k_asm); (case k6 => k_mem); (case k7 => exact codeRec_news (by k_asm) (by k_mem) (by assumption) (by assumption)); (case k8 => k_room); (case k9 => exact rfl); (case c5 => decide); (case kB => exact locs rfl); (case c2 => exact rfl); (case c3 => exact rfl); (case c4 => exact rfl); k_whole; intro g' L' h' FG' F' N' B' X' T'; (try dsimp only); (try k_lift B'); (try k_fold))
  k_steps
  (with_reducible rename Fr h₀ L _ m => kF)
  (with_reducible rename News h₀ L _ _ => kN)
  exact hret _ _ _ _ kF kN ⟨_, im, fun q hq => hq, fun q hq => hq, hs, hh, _, rfl⟩
end
end Mine
end
section
open PySem PySem.Spec PySem.Calls PySem.W PyProof.Rows
namespace Mine
noncomputable def hPre : List Stmt := lit [_, _] (rfl : (fB (stAt 60)).take 2 = _)
noncomputable def hRow : List Stmt := lit [_] (rfl : ((fB (stAt 60)).drop 2).take 1 = _)
noncomputable def hWh : List Stmt := lit [_, _] (rfl : ((fB (stAt 60)).drop 3).take 2 = _)
noncomputable def hLoop : List Stmt := lit [_] (rfl : ((fB (stAt 60)).drop 5).take 1 = _)
noncomputable def hFront : List Stmt := lit [_, _] (rfl : ((fB (stAt 60)).drop 6).take 2 = _)
noncomputable def hBegun : List Stmt := lit [_] (rfl : ((fB (stAt 60)).drop 8).take 1 = _)
noncomputable def hRest : List Stmt := lit [_] (rfl : ((fB (stAt 60)).drop 9).take 1 = _)
noncomputable def lawBody10 : List Stmt := lit [_, _, _] (rfl : (fB (stAt 60)).drop 10 = _)
noncomputable abbrev lawBody9 : List Stmt := hRest ++ lawBody10
noncomputable abbrev lawBody8 : List Stmt := hBegun ++ lawBody9
noncomputable abbrev lawBody6 : List Stmt := hFront ++ lawBody8
noncomputable abbrev lawBody5 : List Stmt := hLoop ++ lawBody6
noncomputable abbrev lawBody3 : List Stmt := hWh ++ lawBody5
noncomputable abbrev lawBody2 : List Stmt := hRow ++ lawBody3
noncomputable abbrev lawBody : List Stmt := hPre ++ lawBody2
noncomputable def turnB4 : List Stmt := lit [_, _, _, _, _] (rfl : (wB (inAt (stAt 60) 5)).drop 4 = _)
noncomputable def lawScope : Scope := lit (Scope.mk _ _ _ _ _) (rfl : fC (stAt 60) = _)
noncomputable abbrev lawEnv (fa L : Addr) : Env := envOfC (Str.ofString "law") lawScope L fa (.ref 450)
section
variable {prog : Program} {w : World} {A : Around} {E : Value → Shared → Prop} {s : Shared} {value slice : PySem.Expr} {t : Addr} {u : Tok} {Q : Value → Shared → Prop} {x y z : Value}
theorem lst_i0 (ht : s.heap.IsList t [x, y, z].toArray) (h : Q x s) (hs : subscripted slice false (.ref t) (.int 0 u) = operate [.ref t, .int 0 u] (getItem (.ref t) (.int 0 u))) (hg : ∀ r, letTemporaryGo value (.ref t) r = pure ()) :
    wpAny (model prog w) A (subscriptTail value slice (.ref t) (.int 0 u)) Q E s := PyProof.Rows.item_listL ht (by decide) (by decide) rfl h hs hg
theorem lst_i1 (ht : s.heap.IsList t [x, y, z].toArray) (h : Q y s) (hs : subscripted slice false (.ref t) (.int 1 u) = operate [.ref t, .int 1 u] (getItem (.ref t) (.int 1 u))) (hg : ∀ r, letTemporaryGo value (.ref t) r = pure ()) :
    wpAny (model prog w) A (subscriptTail value slice (.ref t) (.int 1 u)) Q E s := PyProof.Rows.item_listL ht (by decide) (by decide) rfl h hs hg
theorem lst_i2 (ht : s.heap.IsList t [x, y, z].toArray) (h : Q z s) (hs : subscripted slice false (.ref t) (.int 2 u) = operate [.ref t, .int 2 u] (getItem (.ref t) (.int 2 u))) (hg : ∀ r, letTemporaryGo value (.ref t) r = pure ()) :
    wpAny (model prog w) A (subscriptTail value slice (.ref t) (.int 2 u)) Q E s := PyProof.Rows.item_listL ht (by decide) (by decide) rfl h hs hg
end
theorem pow_ne3 (k : Nat) : (3 : Int) ^ k ≠ 0 := Int.pow_ne_zero (by decide)
theorem pow_ne7 (k : Nat) : (7 : Int) ^ k ≠ 0 := Int.pow_ne_zero (by decide)
theorem pow_py3 {k : Nat} (hk : k < 3000) : ((3 : Int) ^ k).natAbs.log2 < 9000 := pow_py (b := 3) (by decide) hk
theorem pow_py7 {k : Nat} (hk : k < 3000) : ((7 : Int) ^ k).natAbs.log2 < 9000 := pow_py (b := 7) (by decide) hk
end Mine
end
section
open PySem PySem.Spec PySem.Calls PySem.W PyProof.Rows
namespace Mine
local macro_rules | `(tactic| walk_at "no such key") => `(tactic| fail)
local macro_rules | `(tactic| walk_at "subscriptTail Name Slice ref ref") => `(tactic| (k_here; k_dflt (refine' kmk_slice_ints ?F ?N ?l ?p ?q ?i ?m ?c ?_ ?s ?t ?z; (case F => k_asm); (case N => k_asm); (case l => kmk_list); (case p => kmk_part); (case q => kmk_part); (case i => l_ints); (case m => first | exact kmk_upto (by l_ints) (by kmk_sign) | exact kmk_from (by l_ints) (by kmk_sign)); (case c => kmk_len); (case s => with_unfolding_all rfl); (case t => kmk_pure); (case z => kmk_size)); intro D' ws' h' F' N' l1 hI' hC' hL'; (try simp only [Int.reduceNeg, Int.neg_neg, Int.reduceToNat] at hI' hC' hL'); (try k_lt l1); (try k_sweep)))
section
variable {fa : Addr} {prog : Program} {w : World} {p : Program} {loose : List Str} {mean : ExcName → Option Value} {mg mb : Str → Option Value}
set_option maxRecDepth 100000
set_option maxHeartbeats 8000000
theorem law2_pre {tl : List Stmt} {A₀ : Around} {base h₀ h₁ : Heap} {outer : List Env} {L sc : Nat} {m : Str → Option Value} {wc wr wl : Obj} {vs : List Value} {ns : List Int} {dp un : Nat} {gd : Option (List Code)} {s : Shared} {Q : Flow → Shared → Prop} {E : Value → Shared → Prop}
    (B : Below A₀ base outer h₀) (X : (KK w.params).In h₀) (T : Top p loose mean mg mb h₀) (F : Fr h₀ L h₁ m) (hm : ∀ y, m y = [(Str.ofString "script", Value.ref sc)].lookup y)
    (N : News h₀ L h₁ [((L + 1 + 1 + 1 : Nat), wl), ((L + 1 + 1 : Nat), wr), ((L + 1 : Nat), wc), ((448 : Nat), tabObj #[])]) (hw : wc.data = .cell none) (hL : 448 < L) (hl : h₀.IsList sc vs.toArray) (hI : IntsAre vs ns) (hlen : ns.length ≤ 63)
    (hdp : dp + 250 < recursionLimit) (hun : un + 2500 < cLine)
    (rest : ∀ (cl : Nat) (c0 c1 c2 : Int) t0 t1 t2 wc' h' tk' m', 0 ≤ c0 → 0 ≤ c1 → 0 ≤ c2 → Fr h₀ L h' m' → News h₀ L h' [((cl : Nat), listOf #[.int c0 t0, .int c1 t1, .int c2 t2] 0), ((L + 1 + 1 + 1 : Nat), wl), ((L + 1 + 1 : Nat), wr), ((L + 1 : Nat), wc'), ((448 : Nat), tabObj #[])] → wc'.data = .cell (some (.ref cl)) → L + 1 + 1 + 1 < cl →
      wpAny (model prog w) ((lawTop dp un gd outer).deeper (lawEnv fa L)) (execs tl (lawEnv fa L)) Q E { s with heap := h', toks := tk' }) :
    wpAny (model prog w) ((lawTop dp un gd outer).deeper (lawEnv fa L)) (execs (hPre ++ tl) (lawEnv fa L)) Q E { s with heap := h₁ } := by
  obtain rfl : m = fun y => [(Str.ofString "script", Value.ref sc)].lookup y := funext hm
  unfold hPre lawEnv lawScope lit
  simp only [List.cons_append, List.nil_append]
  clear hm
  k_steps
  (with_reducible rename Fr _ _ _ _ => kF)
  (with_reducible rename News _ _ _ _ => kN)
  (with_reducible rename IntsAre _ (_ ++ _) => kI)
  obtain ⟨c0, c1, c2, e, p0, p1, p2⟩ := three_cells (a := 4) (b := 129) (c := 1) (by decide) (by decide) (by decide) ns
  rw [e] at kI
  obtain ⟨t0, t1, t2, rfl⟩ := ints_three kI
  refine rest _ c0 c1 c2 t0 t1 t2 _ _ _ _ p0 p1 p2 kF (News.sub kN ?_) (by assumption) (by omega)
  intro q hq
  simp only [List.mem_cons, List.not_mem_nil, or_false] at hq ⊢
  rcases hq with h | h | h | h | h <;> simp [h]
end
end Mine
end
section
open PySem PySem.Spec PySem.Calls PySem.W PyProof.Rows
namespace Mine
local macro_rules | `(tactic| walk_at "CompSrc") => `(tactic| (k_here; refine stop_intro ?_))
local macro_rules | `(tactic| walk_at "binaryOp FloorDiv int int") => `(tactic| (k_here; (with_reducible refine floordiv_int ?kbe ?_ (Or.inl (PyProof.noPylong_of_log2 ?kbp))); (case kbe => exact pow_ne3 _); (case kbp => exact pow_py3 (by omega))))
local macro_rules | `(tactic| walk_at "subscriptTail Name Constant ref int") => `(tactic| (k_here; k_dflt ((first | ((with_reducible show wpAny _ _ (subscriptTail _ _ (Value.ref _) (Value.int 0 _)) _ _ _); refine' lst_i0 ?k1 ?_ ?k7 ?k8) | ((with_reducible show wpAny _ _ (subscriptTail _ _ (Value.ref _) (Value.int 1 _)) _ _ _); refine' lst_i1 ?k1 ?_ ?k7 ?k8) | ((with_reducible show wpAny _ _ (subscriptTail _ _ (Value.ref _) (Value.int 2 _)) _ _ _); refine' lst_i2 ?k1 ?_ ?k7 ?k8)); (case k1 => exact News.isList (by k_asm) (by k_mem)); (case k7 => with_unfolding_all rfl); (case k8 => intro _; with_unfolding_all rfl))))
local macro_rules | `(tactic| walk_at "CompEnd") => `(tactic| (k_here; refine stop_intro ?_))
local macro_rules | `(tactic| walk_at "binaryOp Pow int int") => `(tactic| (k_here; (with_reducible refine pow_int_small ?kb1 ?kb2 ?kb3 ?_); (case kb1 => assumption); (case kb2 => assumption); (case kb3 => decide)))
noncomputable def firstOf (c0 c1 : Int) : Str := Txt.join (Str.ofString "") ((rangeKs 0 (1 + c0.fmod 7).toNat).map fun k => Txt.item (Str.ofString "abc") ((c1.fdiv (3 ^ k.toNat)).fmod 3))
section
variable {fa : Addr} {prog : Program} {w : World} {p : Program} {loose : List Str} {mean : ExcName → Option Value} {mg mb : Str → Option Value}
set_option maxRecDepth 100000
set_option maxHeartbeats 8000000
theorem law2_row {tl : List Stmt} {A₀ : Around} {base h₀ h₁ : Heap} {outer : List Env} {L cl : Nat} {m : Str → Option Value} {wc wr wl : Obj} {c0 c1 c2 : Int} {t0 t1 t2 : Tok} {dp un : Nat} {gd : Option (List Code)} {s : Shared} {Q : Flow → Shared → Prop} {E : Value → Shared → Prop}
    (B : Below A₀ base outer h₀) (X : (KK w.params).In h₀) (T : Top p loose mean mg mb h₀) (F : Fr h₀ L h₁ m)
    (N : News h₀ L h₁ [((cl : Nat), listOf #[.int c0 t0, .int c1 t1, .int c2 t2] 0), ((L + 1 + 1 + 1 : Nat), wl), ((L + 1 + 1 : Nat), wr), ((L + 1 : Nat), wc), ((448 : Nat), tabObj #[])]) (hw : wc.data = .cell (some (.ref cl))) (hL : 448 < L) (hcl : L + 1 + 1 + 1 < cl)
    (p0 : 0 ≤ c0) (p1 : 0 ≤ c1) (p2 : 0 ≤ c2)
    (hdp : dp + 250 < recursionLimit) (hun : un + 2500 < cLine)
    (rest : ∀ tr h' tk' m', Fr h₀ L h' m' → News h₀ L h' [((cl : Nat), listOf #[.int c0 t0, .int c1 t1, .int c2 t2] 0), ((L + 1 + 1 + 1 : Nat), wl), ((L + 1 + 1 : Nat), wr), ((L + 1 : Nat), wc), ((448 : Nat), tabObj #[])] →
      m' (Str.ofString "first") = some (.str (firstOf c0 c1) tr) →
      wpAny (model prog w) ((lawTop dp un gd outer).deeper (lawEnv fa L)) (execs tl (lawEnv fa L)) Q E { s with heap := h', toks := tk' }) :
    wpAny (model prog w) ((lawTop dp un gd outer).deeper (lawEnv fa L)) (execs (hRow ++ tl) (lawEnv fa L)) Q E { s with heap := h₁ } := by
  unfold hRow lawEnv lawScope lit
  simp only [List.cons_append, List.nil_append]
  k_steps
  unfold Stop
  have f1 : 0 ≤ c0.fmod 7 := fmod_lo _ (by decide)
  have f2 : c0.fmod 7 < 7 := fmod_hi _ (by decide)
  obtain ⟨n, hn⟩ : ∃ n : Nat, 1 + c0.fmod 7 = (n : Int) := ⟨(1 + c0.fmod 7).toNat, by omega⟩
  have hn3 : n ≤ 7 := by omega
  have hrow : firstOf c0 c1 = Txt.join (Str.ofString "") ((rangeKs 0 n).map fun k => Txt.item (Str.ofString "abc") ((c1.fdiv (3 ^ k.toNat)).fmod 3)) := by
    unfold firstOf; rw [hn]; rfl
  rw [hrow] at rest
  clear hrow
  (with_reducible rename Fr _ _ _ _ => kF)
  (with_reducible rename News _ _ _ _ => kN)
  (with_reducible rename IsRange _ _ _ _ _ _ _ _ => kR)
  simp only [hn] at kF kR rest ⊢
  refine LCg.CompSrc.range (by rfl) kF kN kR (small_one (by omega) (by omega) (by omega) (by omega)) (rangeSize_nat _ _) (by rw [PySem.sizeLine_eq]; omega) ?_
  intro g'
  refine kct_range (fun k => Txt.item (Str.ofString "abc") ((c1.fdiv (3 ^ k.toNat)).fmod 3)) (fun k' t' I' oI' C' oC' D' m' ys' h' tk' E' hlo' hhi' hC' hx' F' N' off' ne' => ?_) ?_
  · intro mk
    clear kF kN
    have kk1 : 0 ≤ k' := hlo'
    have kk2 : k' ≤ 1000000 := by omega
    k_steps
    unfold Stop
    refine LCg.CompEnd.intro F' N' _ (fun _ h => h) off' trivial ?_
    exact ⟨rfl, _, rfl⟩
  · unfold KPfDone
    intro ys hc hl
    k_steps
    (with_reducible rename Fr _ _ _ _ => kF2)
    (with_reducible rename News _ _ _ _ => kN2)
    refine rest _ _ _ _ kF2 (News.sub kN2 ?_) rfl
    intro q hq
    simp only [List.mem_cons, List.not_mem_nil, or_false] at hq ⊢
    rcases hq with h | h | h | h | h <;> simp [h]
end
end Mine
end
section
open PySem PySem.Spec PySem.Calls PySem.W PyProof.Rows
namespace Mine
noncomputable def nodeNd : Nd := .cat (.now (.len 1) (Str.ofString "A")) (.notanyD (Str.ofString "A"))
noncomputable def toldNd : Nd := .cat nodeNd (.cat (.cursor (Str.ofString "J")) .fail)
noncomputable def H0 : HS := ⟨[], [], 0⟩
noncomputable def picked (log : List (Str × Dv)) : List Dv := (log.filter fun e => e.1 == Str.ofString "J").map (·.2)
noncomputable def places (row : Str) : List Int := ((List.range (row.length - 1)).filter fun b => decide (row.cps.toList[b]? ≠ row.cps.toList[b + 1]?)).map fun b => ((b + 2 : Nat) : Int)
noncomputable def cnt (row : Str) (c : Nat) : Nat := row.cps.toList.count c
structure Inv (first row : Str) (turn : Nat) : Prop where
  fl : first.length ≤ 7
  len : row.length ≤ 7
  sum : first.length = row.length + 2 * turn
  most : ∀ c, 2 * (cnt first c : Int) - first.length ≤ 2 * (cnt row c : Int) - row.length
  asc : ∀ z ∈ row.cps.toList, z < 128
theorem cnt_is (c : Nat) : ∀ l : List Nat, PyProof.Rows.cnt c l = ((l.count c : Nat) : Int)
  | [] => rfl
  | n :: r => by
    rw [PyProof.Rows.cnt_cons, cnt_is c r, List.count_cons]
    by_cases h : n = c <;> simp [h]; omega
theorem count_cnt (y : Str) (c : Nat) : Txt.count y ⟨#[c]⟩ = (cnt y c : Int) := by
  rw [PyProof.Rows.count_is]
  exact cnt_is c _
theorem len_list (x : Str) : x.cps.toList.length = x.length := by
  unfold Str.length
  simp
theorem mem_places {row : Str} {p : Int} (h : p ∈ places row) : ∃ b : Nat, p = ((b + 2 : Nat) : Int) ∧ b + 1 < row.length ∧ row.cps.toList[b]? ≠ row.cps.toList[b + 1]? := by
  unfold places at h
  obtain ⟨b, hb, rfl⟩ := List.mem_map.mp h
  rw [List.mem_filter, List.mem_range, decide_eq_true_eq] at hb
  exact ⟨b, rfl, by omega, hb.2⟩
theorem cps_app (x y : Str) : (x ++ y).cps.toList = x.cps.toList ++ y.cps.toList := by
  show (x.cps ++ y.cps).toList = _
  simp
theorem splice_list {row : Str} {b : Nat} (h : b + 1 < row.length) : (splice row b (b + 2) (Str.ofString "")).cps.toList = row.cps.toList.take b ++ row.cps.toList.drop (b + 2) := by
  unfold splice
  rw [eq_of_beq (slice_closes_toL (x := row) (j := (b : Int)) (by omega) (by omega)), slice_from_eq (x := row) (i := ((b + 2 : Nat) : Int)) (b := (row.length : Int)) (by omega) (by omega) rfl, cps_app, cps_app]
  have e1 : (Str.ofString "").cps.toList = [] := by decide +kernel
  rw [e1]
  simp only [List.append_nil]
  congr 1
  show (List.take (((row.length : Int) - ((b + 2 : Nat) : Int)).toNat) (List.drop (((b + 2 : Nat) : Int)).toNat row.cps.toList)) = _
  rw [show (((b + 2 : Nat) : Int)).toNat = b + 2 by omega]
  refine List.take_of_length_le ?_
  rw [List.length_drop, len_list]
  omega
theorem place_is {row : Str} {p : Int} (h : p ∈ places row) : ∃ k : Nat, p = (k : Int) ∧ 2 ≤ k ∧ k ≤ row.length := by
  obtain ⟨b, rfl, hb, _⟩ := mem_places h
  exact ⟨b + 2, rfl, by omega, by omega⟩
noncomputable def Fewer (row y : Str) : Prop := (∀ c, 2 * (cnt row c : Int) - row.length ≤ 2 * (cnt y c : Int) - y.length) ∧ ∀ z ∈ y.cps.toList, z ∈ row.cps.toList
theorem step_ok {row : Str} {k : Nat} (h : (k : Int) ∈ places row) : (splice row (k - 2) k (Str.ofString "")).length + 2 = row.length ∧ Fewer row (splice row (k - 2) k (Str.ofString "")) := by
  obtain ⟨b, e, hb, hne⟩ := mem_places h
  obtain rfl : k = b + 2 := by omega
  have hl := splice_list hb
  rw [show b + 2 - 2 = b by omega]
  generalize splice row b (b + 2) (Str.ofString "") = y at hl
  have hlen : y.length + 2 = row.length := by
    rw [← len_list, hl, List.length_append, List.length_take, List.length_drop, len_list]
    omega
  have hsplit : row.cps.toList = row.cps.toList.take b ++ (row.cps.toList[b]'(by rw [len_list]; omega) :: row.cps.toList[b + 1]'(by rw [len_list]; omega) :: row.cps.toList.drop (b + 2)) := by
    conv => lhs; rw [← List.take_append_drop b row.cps.toList]
    congr 1
    rw [List.drop_eq_getElem_cons (by rw [len_list]; omega), List.drop_eq_getElem_cons (i := b + 1) (by rw [len_list]; omega)]
  have hne2 : row.cps.toList[b]'(by rw [len_list]; omega) ≠ row.cps.toList[b + 1]'(by rw [len_list]; omega) := by
    intro q
    apply hne
    rw [List.getElem?_eq_getElem (by rw [len_list]; omega), List.getElem?_eq_getElem (by rw [len_list]; omega), q]
  refine ⟨hlen, fun c => ?_, fun z hz => ?_⟩
  · have h1 : cnt row c ≤ cnt y c + 1 := by
      unfold cnt
      rw [hl]
      conv => lhs; rw [hsplit]
      rw [List.count_append, List.count_append, List.count_cons, List.count_cons]
      by_cases q1 : row.cps.toList[b]'(by rw [len_list]; omega) = c
      · have q2 : ¬ row.cps.toList[b + 1]'(by rw [len_list]; omega) = c := fun q => hne2 (q1.trans q.symm)
        simp only [beq_iff_eq, q1, q2, if_true, if_false]
        omega
      · simp only [beq_iff_eq, q1, if_false]
        split <;> omega
    omega
  · rw [hl] at hz
    rcases List.mem_append.mp hz with q | q
    · exact List.mem_of_mem_take q
    · exact List.mem_of_mem_drop q
theorem Inv.step {first row y : Str} {turn : Nat} (h : Inv first row turn) (h1 : y.length + 2 = row.length) (h2 : Fewer row y) : Inv first y (turn + 1) :=
  ⟨h.fl, by have := h.len; omega, by have := h.sum; omega, fun c => Int.le_trans (h.most c) (h2.1 c), fun z hz => h.asc z (h2.2 z hz)⟩
theorem one_sign {row : Str} (h : places row = []) : ∃ c : Str, ∀ z ∈ row.cps.toList, (⟨#[z]⟩ : Str) = c := by
  have key : ∀ b, b + 1 < row.length → row.cps.toList[b]? = row.cps.toList[b + 1]? := by
    intro b hb
    by_cases q : row.cps.toList[b]? = row.cps.toList[b + 1]?
    · exact q
    · have : ((b + 2 : Nat) : Int) ∈ places row := by
        unfold places
        exact List.mem_map.mpr ⟨b, List.mem_filter.mpr ⟨List.mem_range.mpr (by omega), decide_eq_true q⟩, rfl⟩
      rw [h] at this
      cases this
  have all : ∀ b, b < row.length → row.cps.toList[b]? = row.cps.toList[0]? := by
    intro b
    induction b with
    | zero => intro _; rfl
    | succ b ih => intro hb; rw [← key b hb]; exact ih (by omega)
  refine ⟨⟨#[(row.cps.toList[0]?).getD 0]⟩, fun z hz => ?_⟩
  obtain ⟨b, hb, rfl⟩ := List.getElem_of_mem hz
  have := all b (by rw [← len_list]; exact hb)
  rw [← this, List.getElem?_eq_getElem hb]
  rfl
theorem Inv.ascii {first row : Str} {turn : Nat} (h : Inv first row turn) : row.cps.all (· < 128) = true := by
  rw [← Array.all_toList, List.all_eq_true]
  intro z hz
  exact decide_eq_true (h.asc z hz)
theorem Inv.left {first row : Str} {turn : Nat} (h : Inv first row turn) (c : Nat) : 2 * Txt.count first ⟨#[c]⟩ - (first.length : Int) ≤ Txt.count row ⟨#[c]⟩ := by
  rw [count_cnt, count_cnt]
  have h1 := h.most c
  have h2 : cnt row c ≤ row.length := List.count_le_length
  omega
noncomputable def red : Nat → Str → Str × Nat
  | 0, row => (row, 0)
  | c + 1, row => match places row with
    | [] => (row, 0)
    | p :: _ => ((red c (splice row (p.toNat - 2) p.toNat (Str.ofString ""))).1, (red c (splice row (p.toNat - 2) p.toNat (Str.ofString ""))).2 + 1)
theorem red_inv : ∀ (c : Nat) {first row : Str} {turn : Nat}, Inv first row turn → Inv first (red c row).1 (turn + (red c row).2)
  | 0, first, row, turn, h => h
  | c + 1, first, row, turn, h => by
    unfold red
    cases e : places row with
    | nil => exact h
    | cons p r =>
      have hp : p ∈ places row := by rw [e]; exact .head _
      obtain ⟨k, rfl, _, _⟩ := place_is hp
      have h1 := step_ok hp
      have := red_inv c (h.step h1.1 h1.2)
      show Inv first (red c (splice row (k - 2) k (Str.ofString ""))).1 (turn + ((red c (splice row (k - 2) k (Str.ofString ""))).2 + 1))
      rwa [show turn + ((red c (splice row (k - 2) k (Str.ofString ""))).2 + 1) = turn + 1 + (red c (splice row (k - 2) k (Str.ofString ""))).2 by omega]
theorem red_done : ∀ (c : Nat) {row : Str}, row.length < 2 * c + 2 → places (red c row).1 = []
  | 0, row, h => by
    show places row = []
    unfold places
    rw [show row.length - 1 = 0 by omega]; rfl
  | c + 1, row, h => by
    unfold red
    cases e : places row with
    | nil => exact e
    | cons p r =>
      have hp : p ∈ places row := by rw [e]; exact .head _
      obtain ⟨k, rfl, _, _⟩ := place_is hp
      have h1 := step_ok hp
      exact red_done c (by show (splice row (k - 2) k (Str.ofString "")).length < _; omega)
theorem red_more : ∀ (c d : Nat) {row : Str}, row.length < 2 * c + 2 → c ≤ d → red d row = red c row
  | 0, 0, row, h, _ => rfl
  | 0, d + 1, row, h, _ => by
    have e : places row = [] := by unfold places; rw [show row.length - 1 = 0 by omega]; rfl
    unfold red
    rw [e]
  | c + 1, 0, row, h, hc => by omega
  | c + 1, d + 1, row, h, hc => by
    unfold red
    cases e : places row with
    | nil => rfl
    | cons p r =>
      have hp : p ∈ places row := by rw [e]; exact .head _
      obtain ⟨k, rfl, _, _⟩ := place_is hp
      have h1 := step_ok hp
      have := red_more c d (row := splice row (k - 2) k (Str.ofString "")) (by omega) (by omega)
      show ((red d (splice row (k - 2) k (Str.ofString ""))).1, (red d (splice row (k - 2) k (Str.ofString ""))).2 + 1) = ((red c (splice row (k - 2) k (Str.ofString ""))).1, (red c (splice row (k - 2) k (Str.ofString ""))).2 + 1)
      rw [this]
theorem red_split : ∀ (m d : Nat) {row : Str}, row.length < 2 * d + 2 → (red d (red m row).1).1 = (red d row).1 ∧ (red m row).2 + (red d (red m row).1).2 = (red d row).2 ∧ (red m row).2 = min m (red d row).2
  | 0, d, row, h => ⟨rfl, by show 0 + (red d row).2 = _; omega, by show 0 = min 0 _; omega⟩
  | m + 1, d, row, h => by
    cases e : places row with
    | nil =>
      have e1 : red (m + 1) row = (row, 0) := by unfold red; rw [e]
      have e2 : red d row = (row, 0) := by
        cases d with
        | zero => rfl
        | succ d => unfold red; rw [e]
      rw [e1]
      show (red d row).1 = (red d row).1 ∧ 0 + (red d row).2 = (red d row).2 ∧ 0 = min (m + 1) (red d row).2
      rw [e2]
      exact ⟨rfl, rfl, by omega⟩
    | cons p r =>
      have hp : p ∈ places row := by rw [e]; exact .head _
      obtain ⟨k, rfl, _, hk⟩ := place_is hp
      have h1 := step_ok hp
      cases d with
      | zero => omega
      | succ d =>
        have e1 : red (m + 1) row = ((red m (splice row (k - 2) k (Str.ofString ""))).1, (red m (splice row (k - 2) k (Str.ofString ""))).2 + 1) := by
          conv => lhs; unfold red
          rw [e]; rfl
        have e2 : red (d + 1) row = ((red d (splice row (k - 2) k (Str.ofString ""))).1, (red d (splice row (k - 2) k (Str.ofString ""))).2 + 1) := by
          conv => lhs; unfold red
          rw [e]; rfl
        have hl : (splice row (k - 2) k (Str.ofString "")).length < 2 * d + 2 := by omega
        obtain ⟨a, b, c⟩ := red_split m d hl
        have hr := red_inv m (first := splice row (k - 2) k (Str.ofString "")) (row := splice row (k - 2) k (Str.ofString "")) (turn := 0)
        rw [e1, e2]
        dsimp only
        have hy : (red m (splice row (k - 2) k (Str.ofString ""))).1.length ≤ (splice row (k - 2) k (Str.ofString "")).length := red_len m
        rw [red_more d (d + 1) (by omega) (by omega)]
        exact ⟨a, by omega, by omega⟩
where
  red_len (m : Nat) : ∀ {row : Str}, (red m row).1.length ≤ row.length := by
    induction m with
    | zero => intro row; exact Nat.le_refl _
    | succ m ih =>
      intro row
      unfold red
      cases e : places row with
      | nil => exact Nat.le_refl _
      | cons p r =>
        have hp : p ∈ places row := by rw [e]; exact .head _
        obtain ⟨k, rfl, _, _⟩ := place_is hp
        have h1 := step_ok hp
        exact Nat.le_trans ih (by show (splice row (k - 2) k (Str.ofString "")).length ≤ _; omega)
end Mine
end
section
open PySem PySem.Spec PySem.Calls PySem.W PyProof.Rows
open scoped Classical
namespace Mine
theorem go_item {sub : Str} {n : Nat} {i : It} {r : List It} {k : Nat} {pile : List (List It × Nat)} {H : HS} (h1 : supp i H = true) (h2 : k ≤ 1000) (h3 : H.steps + 1 ≤ 9999) (h4 : H.log.length ≤ 9999) (h5 : pile.length ≤ 1000) :
    go sub (n + 1) (some (i :: r, k)) pile H = go sub n (adv i r k sub pile H.step).1 (adv i r k sub pile H.step).2.1 (adv i r k sub pile H.step).2.2 := by
  conv => lhs; unfold go
  exact if_pos ⟨h1, h2, h3, h4, h5⟩
theorem go_none {sub : Str} {n : Nat} {H : HS} : go sub (n + 1) none [] H = some (none, H) := by unfold go; rfl
theorem go_fin {sub : Str} {n k : Nat} {pile : List (List It × Nat)} {H : HS} : go sub (n + 1) (some ([], k)) pile H = some (some k, H) := by unfold go; rfl
theorem valD_putv (k : Str) (d : Dv) : ∀ l : List (Str × Dv), valD (putv l k d) k = some d
  | [] => by unfold putv valD; simp
  | (x, y) :: r => by
    have ih := valD_putv k d r
    unfold putv valD at ih ⊢
    by_cases e : x = k
    · subst e; simp
    · by_cases a : (r.any fun p => decide (p.1 = k)) = true
      · rw [if_pos a] at ih
        have a2 : ((x, y) :: r).any (fun p => decide (p.1 = k)) = true := by rw [List.any_cons, a, Bool.or_true]
        rw [if_pos a2, List.map_cons, if_neg e, List.find?_cons]
        simp only [e, decide_false]
        exact ih
      · rw [if_neg a] at ih
        have a2 : ¬ ((x, y) :: r).any (fun p => decide (p.1 = k)) = true := by
          rw [List.any_cons]
          simp only [e, decide_false, Bool.false_or]
          exact a
        rw [if_neg a2, List.cons_append, List.find?_cons]
        simp only [e, decide_false]
        exact ih
noncomputable def nA : Str := Str.ofString "A"
noncomputable def nJ : Str := Str.ofString "J"
noncomputable def unlike (row : Str) (b : Nat) : Prop := b + 1 < row.length ∧ row.cps.toList[b]? ≠ row.cps.toList[b + 1]?
theorem picked_A (l : List (Str × Dv)) (d : Dv) : picked (l ++ [(nA, d)]) = picked l := by
  unfold picked
  rw [List.filter_append, List.map_append]
  have : (nA == Str.ofString "J") = false := by unfold nA; decide +kernel
  simp [this]
theorem picked_J (l : List (Str × Dv)) (d : Dv) : picked (l ++ [(nJ, d)]) = picked l ++ [d] := by
  unfold picked
  rw [List.filter_append, List.map_append]
  have : (nJ == Str.ofString "J") = true := by unfold nJ; decide +kernel
  simp [this]
theorem node_go {row : Str} {b n : Nat} {H : HS} {rest : List It} (hb : b ≤ row.length) (hz : row.length ≤ 7) (hs : H.steps ≤ 9900) (hl : H.log.length ≤ 9900) :
    ∃ H', go row (n + 6) (some (.nd nodeNd :: rest, b)) [] H = go row (n + 1) (if unlike row b then some (rest, b + 2) else none) [] H' ∧ H'.steps ≤ H.steps + 5 ∧ H'.log.length ≤ H.log.length + 1 ∧ picked H'.log = picked H.log := by
  have s1 : go row (n + 6) (some (.nd nodeNd :: rest, b)) [] H = go row (n + 5) (some (.nd (.now (.len 1) nA) :: .nd (.notanyD nA) :: rest, b)) [] H.step := go_item (i := .nd nodeNd) rfl (by omega) (by omega) (by omega) (by decide)
  have s2 : go row (n + 5) (some (.nd (.now (.len 1) nA) :: .nd (.notanyD nA) :: rest, b)) [] H.step = go row (n + 4) (some (.nd (.len 1) :: .endNow nA b :: .nd (.notanyD nA) :: rest, b)) [] H.step.step := go_item (i := .nd (.now (.len 1) nA)) rfl (by omega) (by show H.steps + 1 + 1 ≤ 9999; omega) (by show H.log.length ≤ 9999; omega) (by decide)
  have s3 : go row (n + 4) (some (.nd (.len 1) :: .endNow nA b :: .nd (.notanyD nA) :: rest, b)) [] H.step.step = go row (n + 3) ((if b + 1 ≤ row.length then some (b + 1) else none).map fun e => (.endNow nA b :: .nd (.notanyD nA) :: rest, e)) [] H.step.step.step := go_item (i := .nd (.len 1)) rfl (by omega) (by show H.steps + 1 + 1 + 1 ≤ 9999; omega) (by show H.log.length ≤ 9999; omega) (by decide)
  rw [s1, s2, s3]
  by_cases h1 : b + 1 ≤ row.length
  · rw [if_pos h1]
    show ∃ H', go row (n + 3) (some (.endNow nA b :: .nd (.notanyD nA) :: rest, b + 1)) [] H.step.step.step = _ ∧ _
    have hx : Txt.slice row (some (b : Int)) (some ((b + 1 : Nat) : Int)) = ⟨#[row.cps.getD b 0]⟩ := eq_of_beq (slice_one_closes (x := row) (n := (b : Int)) (by omega) (by omega))
    have s4 : go row (n + 3) (some (.endNow nA b :: .nd (.notanyD nA) :: rest, b + 1)) [] H.step.step.step = go row (n + 2) (some (.nd (.notanyD nA) :: rest, b + 1)) [] (H.step.step.step.step.assign nA (.s ⟨#[row.cps.getD b 0]⟩)) := by
      rw [← hx]
      exact go_item (i := .endNow nA b) rfl (by omega) (by show H.steps + 1 + 1 + 1 + 1 ≤ 9999; omega) (by show H.log.length ≤ 9999; omega) (by decide)
    have hv : valD (H.step.step.step.step.assign nA (.s ⟨#[row.cps.getD b 0]⟩)).vals nA = some (.s ⟨#[row.cps.getD b 0]⟩) := valD_putv _ _ _
    have hsu : supp (.nd (.notanyD nA)) (H.step.step.step.step.assign nA (.s ⟨#[row.cps.getD b 0]⟩)) = true := by
      show (match valD (H.step.step.step.step.assign nA (.s ⟨#[row.cps.getD b 0]⟩)).vals nA with
        | some (.s x) => decide (0 < x.length) && decide (x.length ≤ 1000)
        | _ => false) = true
      rw [hv]; rfl
    have hlog : (H.step.step.step.step.assign nA (.s ⟨#[row.cps.getD b 0]⟩)).log = H.log ++ [(nA, .s ⟨#[row.cps.getD b 0]⟩)] := rfl
    generalize hH4 : H.step.step.step.step.assign nA (.s ⟨#[row.cps.getD b 0]⟩) = H4 at s4 hv hsu hlog
    have hst : H4.steps = H.steps + 4 := by rw [← hH4]; rfl
    have hll : H4.log.length = H.log.length + 1 := by rw [hlog]; simp
    have s5 := go_item (sub := row) (n := n + 1) (i := .nd (.notanyD nA)) (r := rest) (k := b + 1) (pile := []) (H := H4) hsu (by omega) (by omega) (by omega) (by decide)
    have ha : adv (.nd (.notanyD nA)) rest (b + 1) row [] H4.step = (if unlike row b then some (rest, b + 2) else none, [], H4.step) := by
      show ((endOf (.notanyD nA) row (b + 1) H4.step).map fun e => (rest, e), [], H4.step) = _
      have he : endOf (.notanyD nA) row (b + 1) H4.step = if unlike row b then some (b + 2) else none := by
        unfold endOf
        have hv2 : valD H4.step.vals nA = some (.s ⟨#[row.cps.getD b 0]⟩) := hv
        dsimp only
        rw [hv2]
        dsimp only
        by_cases h2 : b + 1 < row.length
        · have hi : Txt.item row ((b + 1 : Nat) : Int) = ⟨#[row.cps.getD (b + 1) 0]⟩ := PyProof.Rows.item_meets (x := row) (i := ((b + 1 : Nat) : Int)) (by omega) (by
            show row.cps[(b + 1)]? = some (row.cps.getD (b + 1) 0)
            have : b + 1 < row.cps.size := h2
            simp [Array.getD, this])
          rw [hi, PyProof.Rows.empty_one]
          have g1 : row.cps.toList[b]? = some (row.cps.getD b 0) := by
            have : b < row.cps.size := by have : b + 1 < row.cps.size := h2; omega
            simp [Array.getD, this]
          have g2 : row.cps.toList[b + 1]? = some (row.cps.getD (b + 1) 0) := by
            have : b + 1 < row.cps.size := h2
            simp [Array.getD, this]
          have eqv : (b + 1 < row.length ∧ (!decide (row.cps.getD (b + 1) 0 ∈ (⟨#[row.cps.getD b 0]⟩ : Str).cps.toList)) = true) ↔ unlike row b := by
            unfold unlike
            rw [g1, g2]
            simp only [List.mem_singleton, Bool.not_eq_true', decide_eq_false_iff_not, ne_eq, Option.some.injEq]
            constructor
            · exact fun ⟨x, y⟩ => ⟨x, fun q => y q.symm⟩
            · exact fun ⟨x, y⟩ => ⟨x, fun q => y q.symm⟩
          by_cases hu : unlike row b
          · rw [if_pos (eqv.mpr hu), if_pos hu]
          · rw [if_neg (fun q => hu (eqv.mp q)), if_neg hu]
        · rw [if_neg (fun q => h2 q.1), if_neg (fun q : unlike row b => h2 q.1)]
      rw [he]
      by_cases hu : unlike row b
      · rw [if_pos hu, if_pos hu]; rfl
      · rw [if_neg hu, if_neg hu]; rfl
    rw [ha] at s5
    refine ⟨H4.step, by rw [s4, s5], by show H4.steps + 1 ≤ _; omega, by show H4.log.length ≤ _; omega, ?_⟩
    show picked H4.log = _
    rw [hlog, picked_A]
  · rw [if_neg h1]
    have hu : ¬ unlike row b := fun q => h1 (by have := q.1; omega)
    rw [if_neg hu]
    refine ⟨H.step.step.step, ?_, by show H.steps + 1 + 1 + 1 ≤ _; omega, by show H.log.length ≤ _; omega, rfl⟩
    show go row (n + 3) none [] H.step.step.step = _
    rw [go_none, go_none]
theorem told_go {row : Str} {b : Nat} {H : HS} (hb : b ≤ row.length) (hz : row.length ≤ 7) (hs : H.steps ≤ 9800) (hl : H.log.length ≤ 9800) :
    ∃ H', go row 2000 (some ([.nd toldNd], b)) [] H = some (none, H') ∧ H'.steps ≤ H.steps + 10 ∧ H'.log.length ≤ H.log.length + 2 ∧ picked H'.log = picked H.log ++ (if unlike row b then [Dv.i ((b + 2 : Nat) : Int)] else []) := by
  have s1 : go row 2000 (some ([.nd toldNd], b)) [] H = go row 1999 (some ([.nd nodeNd, .nd (.cat (.cursor nJ) .fail)], b)) [] H.step := go_item (n := 1999) (i := .nd toldNd) rfl (by omega) (by omega) (by omega) (by decide)
  obtain ⟨H1, e1, c1, c2, c3⟩ := node_go (row := row) (b := b) (n := 1993) (H := H.step) (rest := [.nd (.cat (.cursor nJ) .fail)]) hb hz (by show H.steps + 1 ≤ _; omega) (by show H.log.length ≤ _; omega)
  have d1 : H.step.steps = H.steps + 1 := rfl
  have d2 : H.step.log = H.log := rfl
  rw [d1] at c1
  rw [d2] at c2 c3
  rw [s1, e1]
  by_cases hu : unlike row b
  · rw [if_pos hu, if_pos hu]
    have s2 : go row (1993 + 1) (some ([.nd (.cat (.cursor nJ) .fail)], b + 2)) [] H1 = go row 1993 (some ([.nd (.cursor nJ), .nd .fail], b + 2)) [] H1.step := go_item (n := 1993) (i := .nd (.cat (.cursor nJ) .fail)) rfl (by have := hu.1; omega) (by omega) (by omega) (by decide)
    have s3 : go row 1993 (some ([.nd (.cursor nJ), .nd .fail], b + 2)) [] H1.step = go row 1992 (some ([.nd .fail], b + 2)) [] (H1.step.step.assign nJ (.i ((b + 2 : Nat) : Int))) := go_item (n := 1992) (i := .nd (.cursor nJ)) rfl (by have := hu.1; omega) (by show H1.steps + 1 + 1 ≤ 9999; omega) (by show H1.log.length ≤ 9999; omega) (by decide)
    have hl3 : (H1.step.step.assign nJ (.i ((b + 2 : Nat) : Int))).log = H1.log ++ [(nJ, .i ((b + 2 : Nat) : Int))] := rfl
    have hs3 : (H1.step.step.assign nJ (.i ((b + 2 : Nat) : Int))).steps = H1.steps + 2 := rfl
    generalize H1.step.step.assign nJ (.i ((b + 2 : Nat) : Int)) = H3 at s3 hl3 hs3
    have hn3 : H3.log.length = H1.log.length + 1 := by rw [hl3]; simp
    have s4 : go row 1992 (some ([.nd .fail], b + 2)) [] H3 = go row 1991 none [] H3.step := go_item (n := 1991) (i := .nd .fail) rfl (by have := hu.1; omega) (by omega) (by omega) (by decide)
    refine ⟨H3.step, by rw [s2, s3, s4, go_none], by show H3.steps + 1 ≤ _; omega, by show H3.log.length ≤ _; omega, ?_⟩
    show picked H3.log = _
    rw [hl3, picked_J, c3]
  · rw [if_neg hu, if_neg hu]
    exact ⟨H1, go_none, by omega, by omega, by rw [c3, List.append_nil]⟩
theorem told_loop {row : Str} (hz : row.length ≤ 7) : ∀ (c b : Nat) (H : HS), b + c = row.length + 1 → H.steps + 10 * c ≤ 9800 → H.log.length + 2 * c ≤ 9800 →
    ∃ H', mloop row toldNd 2000 c b H = some (none, H') ∧ H'.log.length ≤ H.log.length + 2 * c ∧ picked H'.log = picked H.log ++ ((List.range' b c).filter fun b => decide (unlike row b)).map fun b => Dv.i ((b + 2 : Nat) : Int)
  | 0, b, H, _, _, _ => ⟨H, rfl, by omega, by simp⟩
  | c + 1, b, H, hc, hs, hl => by
    obtain ⟨H1, e1, c1, c2, c3⟩ := told_go (row := row) (b := b) (H := H) (by omega) hz (by omega) (by omega)
    obtain ⟨H2, e2, d2, d3⟩ := told_loop hz c (b + 1) H1 (by omega) (by omega) (by omega)
    refine ⟨H2, ?_, by omega, ?_⟩
    · unfold mloop
      rw [e1]
      exact e2
    · rw [d3, c3, List.range'_succ, List.filter_cons]
      by_cases hu : unlike row b
      · simp [hu]
      · simp [hu]
theorem places_is (row : Str) : places row = ((List.range' 0 (row.length + 1)).filter fun b => decide (unlike row b)).map fun b => ((b + 2 : Nat) : Int) := by
  have e : (List.range (row.length - 1)).filter (fun b => decide (row.cps.toList[b]? ≠ row.cps.toList[b + 1]?)) = (List.range' 0 (row.length + 1)).filter fun b => decide (unlike row b) := by
    rw [← List.range_eq_range']
    obtain ⟨n, hn⟩ : ∃ n, row.length - 1 = n := ⟨_, rfl⟩
    have hsplit : List.range (row.length + 1) = List.range (row.length - 1) ++ (List.range (row.length + 1 - (row.length - 1))).map (fun x => (row.length - 1) + x) := by
      rw [← List.range_add]
      congr 1
      omega
    rw [hsplit, List.filter_append]
    have h2 : ((List.range (row.length + 1 - (row.length - 1))).map (fun x => (row.length - 1) + x)).filter (fun b => decide (unlike row b)) = [] := by
      rw [List.filter_eq_nil_iff]
      intro x hx
      obtain ⟨y, _, rfl⟩ := List.mem_map.mp hx
      rw [decide_eq_true_eq]
      intro q
      have := q.1
      omega
    rw [h2, List.append_nil]
    refine List.filter_congr fun x hx => ?_
    have hx2 := List.mem_range.mp hx
    unfold unlike
    have : x + 1 < row.length := by omega
    simp [this]
  unfold places
  rw [e]
theorem look_ok {row : Str} (hz : row.length ≤ 7) : ∃ H, mloop row toldNd 2000 (row.length + 1) 0 H0 = some (none, H) ∧ H.log.length ≤ 100 ∧ picked H.log = (places row).map Dv.i := by
  obtain ⟨H, e, c1, c2⟩ := told_loop hz (row.length + 1) 0 H0 (by omega) (by show 0 + _ ≤ _; omega) (by show 0 + _ ≤ _; omega)
  refine ⟨H, e, by have : H0.log.length = 0 := rfl; omega, ?_⟩
  rw [c2, places_is, List.map_map]
  rfl
theorem node_loop {row : Str} (hz : row.length ≤ 7) : ∀ (c b : Nat) (H : HS), b + c = row.length + 1 → H.steps + 10 * c ≤ 9800 → H.log.length + 2 * c ≤ 9800 →
    ∃ H', mloop row nodeNd 2000 c b H = some ((((List.range' b c).filter fun b => decide (unlike row b)).head?).map fun b => (b, b + 2), H') ∧ H'.steps ≤ H.steps + 10 * c ∧ H'.log.length ≤ H.log.length + 2 * c
  | 0, b, H, _, _, _ => ⟨H, rfl, by omega, by omega⟩
  | c + 1, b, H, hc, hs, hl => by
    obtain ⟨H1, e1, c1, c2, _⟩ := node_go (row := row) (b := b) (n := 1994) (H := H) (rest := []) (by omega) hz (by omega) (by omega)
    by_cases hu : unlike row b
    · refine ⟨H1, ?_, by omega, by omega⟩
      rw [if_pos hu] at e1
      unfold mloop
      rw [show (2000 : Nat) = 1994 + 6 from rfl, e1, go_fin]
      rw [List.range'_succ, List.filter_cons, if_pos (decide_eq_true hu)]
      rfl
    · rw [if_neg hu] at e1
      obtain ⟨H2, e2, d1, d2⟩ := node_loop hz c (b + 1) H1 (by omega) (by omega) (by omega)
      refine ⟨H2, ?_, by omega, by omega⟩
      unfold mloop
      rw [show (2000 : Nat) = 1994 + 6 from rfl, e1, go_none]
      rw [List.range'_succ, List.filter_cons, if_neg (by simp [hu])]
      exact e2
theorem roften_red : ∀ (c many : Nat) {row : Str} (H : HS), row.length ≤ 7 → H.steps + 100 * c ≤ 9700 → H.log.length + 20 * c ≤ 9700 →
    ∃ H', roften nodeNd false 2000 (fun _ => true) (fun _ => Str.ofString "") c many row H = some (((red c row).1, many + (red c row).2), H')
  | 0, many, row, H, _, _, _ => ⟨H, rfl⟩
  | c + 1, many, row, H, hz, hs, hl => by
    obtain ⟨H1, e1, c1, c2⟩ := node_loop hz (row.length + 1) 0 H (by omega) (by omega) (by omega)
    unfold roften
    rw [if_pos (by omega : row.length ≤ 1000)]
    rw [if_neg (by decide : ¬ (false = true)), e1]
    unfold red
    rw [places_is]
    cases hf : (List.range' 0 (row.length + 1)).filter fun b => decide (unlike row b) with
    | nil => exact ⟨H1, rfl⟩
    | cons b r =>
      have hm : ((b + 2 : Nat) : Int) ∈ places row := by
        rw [places_is, hf]
        exact .head _
      have h1 := step_ok hm
      rw [show b + 2 - 2 = b by omega] at h1
      obtain ⟨H2, e2⟩ := roften_red c (many + 1) (row := splice row b (b + 2) (Str.ofString "")) H1 (by omega) (by omega) (by omega)
      refine ⟨H2, ?_⟩
      show (if (fun _ => true) H1 = true ∧ (Str.ofString "").length ≤ 1000 then roften nodeNd false 2000 (fun _ => true) (fun _ => Str.ofString "") c (many + 1) (splice row b (b + 2) (Str.ofString "")) H1 else none) = _
      rw [if_pos ⟨rfl, by decide +kernel⟩, e2]
      show some (((red c (splice row b (b + 2) (Str.ofString ""))).1, many + 1 + (red c (splice row b (b + 2) (Str.ofString ""))).2), H2) = some (((red c (splice row (b + 2 - 2) (b + 2) (Str.ofString ""))).1, many + ((red c (splice row (b + 2 - 2) (b + 2) (Str.ofString ""))).2 + 1)), H2)
      rw [show b + 2 - 2 = b by omega]
      congr 3
      omega
theorem roften_ok {row : Str} (hz : row.length ≤ 7) (c : Nat) (hc : c ≤ 20) : ∃ H', roften nodeNd false 2000 (fun _ => true) (fun _ => Str.ofString "") c 0 row H0 = some (red c row, H') := by
  obtain ⟨H', e⟩ := roften_red c 0 H0 hz (by show 0 + _ ≤ _; omega) (by show 0 + _ ≤ _; omega)
  exact ⟨H', by rw [e, Nat.zero_add]⟩
end Mine
end
section
open PySem PySem.Spec PySem.Calls PySem.W PyProof.Rows PyProof.Rows.LCg
namespace Mine
inductive DvsAre : List Value → List Dv → Prop
  | nil : DvsAre [] []
  | cons {v : Value} {d : Dv} {l : List Value} {r : List Dv} : DvIs v d → DvsAre l r → DvsAre (v :: l) (d :: r)
theorem DvsAre.snoc {l : List Value} {r : List Dv} {v : Value} {d : Dv} (h : DvsAre l r) (hv : DvIs v d) : DvsAre (l ++ [v]) (r ++ [d]) := by
  induction h with
  | nil => exact .cons hv .nil
  | cons a _ ih => exact .cons a ih
theorem DvsAre.ints : ∀ {l : List Value} {ns : List Int}, DvsAre l (ns.map Dv.i) → IntsAre l ns
  | _, [], .nil => .nil
  | _, n :: ns, .cons (.i) h => .cons _ _ (DvsAre.ints h)
theorem DvsAre.length {l : List Value} {r : List Dv} (h : DvsAre l r) : l.length = r.length := by
  induction h with
  | nil => rfl
  | cons _ _ ih => rw [List.length_cons, List.length_cons, ih]
theorem picked_snoc (l : List (Str × Dv)) (k : Str) (d : Dv) : picked (l ++ [(k, d)]) = picked l ++ (if (k == Str.ofString "J") = true then [d] else []) := by
  unfold picked
  rw [List.filter_append, List.map_append]
  congr 1
  rw [List.filter_cons]
  split <;> rfl
theorem log_get {im : Led} : ∀ {its : List Value} {log : List (Str × Dv)} {i : Nat} {v : Value}, LogIn im its log → its[i]? = some v → ∃ a k t u d n, v = .ref a ∧ (a, tup #[.str k t, u] n) ∈ im ∧ DvIs u d ∧ log.take (i + 1) = log.take i ++ [(k, d)]
  | _, _, 0, _, .cons a b _, h => by cases h; exact ⟨_, _, _, _, _, _, rfl, a, b, rfl⟩
  | _, _, i + 1, v, .cons a b r, h => by
    obtain ⟨a, k, t, u, d, n, e, hm, hd, hl⟩ := log_get (i := i) r (by simpa using h)
    exact ⟨a, k, t, u, d, n, e, hm, hd, by rw [List.take_succ_cons, hl]; rfl⟩
  | _, _, 0, _, .nil, h => by cases h
  | _, _, i + 1, _, .nil, h => by simp at h
section
variable {prog : Program} {w : World} {A : Around} {E : Value → Shared → Prop} {s : Shared} {h₀ : Heap} {L : Addr} {m : Str → Option Value} {env : Env}
noncomputable def Turn (prog : Program) (w : World) (A : Around) (h₀ : Heap) (L : Addr) (m : Str → Option Value) (env : Env) (c elt : PySem.Expr) (x x₂ : Str) (scope : Scope) (cl : List (Str × Addr)) (s : Shared) (news : Led) : Prop :=
  ∀ (I C D : Addr) (oI oC : Obj) (ys : List Value) (m₂ : Str → Option Value) (h : Heap) (tk : Nat) (k : Str) (t : Tok) (v : Value) (Rv : Value → Shared → Prop) (Rf : Shared → Prop) (E' : Value → Shared → Prop),
    NsObj oC m₂ → m₂ x = some (.str k t) → m₂ x₂ = some v → Fr h₀ L h m → News h₀ L h ((I, oI) :: (C, oC) :: (D, lst ys) :: news) → Off3 I C D news → (@Ne Nat I C) ∧ (@Ne Nat I D) ∧ (@Ne Nat C D) →
    (∀ tk', (k == Str.ofString "J") = true → Rv v { s with heap := h, toks := tk' }) → (∀ tk', (k == Str.ofString "J") = false → Rf { s with heap := h, toks := tk' }) →
    wpAny (model prog w) A (isTrue c (compEnvC scope cl C env) (eval c (compEnvC scope cl C env))) (fun ok s₃ => if ok = true then wpAny (model prog w) A (eval elt (compEnvC scope cl C env)) Rv E' s₃ else Rf s₃) E' { s with heap := h, toks := tk }
theorem log_comp {elt iter c : PySem.Expr} {x x₂ y : Str} {px px₂ tp py : Pos} {kt : Nat} {scope : Scope} {cl : List (Str × Addr)} {pos spos : Pos} {Q : Flow → Shared → Prop} {ax : Addr} {its : List Value} {kk : Nat} {news im : Led} {log : List (Str × Dv)}
    (F₀ : Fr h₀ L s.heap m) (hLe : env.locals = L)
    (hsw : swapsWith (.ListComp elt [⟨.Tuple [.Name x px, .Name x₂ px₂] kt tp, iter, [c], 0⟩] scope pos) (some (.Name y py)) spos.line env = pure true)
    (hclos : closureFor scope env = pure cl) (hcell : ∀ z ∈ scope.names, z.2 ≠ .cell) (hkind : scope.kind = .function)
    (hnames : ∀ z ∈ scope.names, z.2 = .local → scope.names.lookup z.1 = some .local) (hx : scope.names.lookup x = some .local) (hx₂ : scope.names.lookup x₂ = some .local) (hxx : x ≠ x₂)
    (hy : env.kindOf y = some .local) (hp : (env.scope.kind == .class || (env.scope.kind == .module && env.locals != env.globals)) = false) (hh : A.handled = none)
    (hit : ∀ (R : Value → Shared → Prop), (∀ tk, R (.ref ax) { s with toks := tk }) → wpAny (model prog w) A (eval iter env) R E s)
    (N : News h₀ L s.heap news) (hm : (ax, listOf its.toArray kk) ∈ news) (him : ∀ q ∈ im, q ∈ news) (hlog : LogIn im its log) (hsz : its.length ≤ sizeLine)
    (turn : Turn prog w A h₀ L m env c elt x x₂ scope cl s news)
    (done : ∀ D h tk ys, DvsAre ys (picked log) → Fr h₀ L h (fun z => if z = y then some (.ref D) else m z) → News h₀ L h ((D, lst ys) :: news) → Off1 D news → Q .next { s with heap := h, toks := tk })
    (hs : ∀ x, foldedSetIterable iter env x = pure x := by intro _; rfl) :
    wpAny (model prog w) A (exec (.Assign [.Name y py] (.ListComp elt [⟨.Tuple [.Name x px, .Name x₂ px₂] kt tp, iter, [c], 0⟩] scope pos) spos) env) Q E s := by
  subst hLe
  rw [exec_Assign_Name_used _ _ _ _ hsw]
  refine wpAny_bind (wpAny_standAt (wpAny_bind ?_))
  show wpAny _ A (do let _ ← comprehension (.ListComp elt [⟨.Tuple [.Name x px, .Name x₂ px₂] kt tp, iter, [c], 0⟩] scope pos) scope env _ (newList []) false (eval iter env) (some (assign (.Name y py) env))) _ _ s
  refine wpAny_bind (wpAny_mono (wpAny_comprehension_free (use := some (assign (.Name y py) env)) (Q := fun _ s' => Q .next s') rfl hs hclos hkind hnames
    (hit _ fun tk₀ => ?_)) (fun _ s' hq => wpAny_pure (wpAny_pure hq)) fun _ _ e => e)
  have hl : s.heap.IsList ax its.toArray := News.isList N hm
  have hlt : ax < s.heap.objs.size := by obtain ⟨_, e, _⟩ := hl; exact Heap.lt_size e
  refine wpAny_pyIter_list hl ?_
  generalize hg1 : s.heap.push { cls := .type "list_iterator", data := .fields #[.ref ax, .int 0 0] } = g1
  have up1 : ∀ b o, s.heap.get? b = some o → g1.get? b = some o := fun b o e => hg1 ▸ Heap.get?_push_of_some _ e
  have size1 : g1.objs.size = s.heap.objs.size + 1 := by rw [← hg1, Heap.size_push]
  have it1 : g1.IsListIter s.heap.objs.size ax 0 := ⟨_, hg1 ▸ Heap.get?_push_size _ rfl, rfl, rfl⟩
  have list1 : g1.IsList ax its.toArray := by rw [← hg1]; exact hl.push _
  have I0 : h₀.get? s.heap.objs.size = none := next_is_new F₀
  have hLlt : env.locals < s.heap.objs.size := F₀.ns.lt
  refine wpAny_newObj_type (wpAny_newFunctionEnv hcell (by intro y hy; simp at hy) (fun g3 ns3 sb3 => ?_) hkind)
  dsimp only at ns3 sb3 ⊢
  generalize hg2 : g1.push { cls := .type "list", dict := none, data := .seq ([] : List Value).toArray } = g2 at ns3 sb3 ⊢
  have size2 : g2.objs.size = g1.objs.size + 1 := by rw [← hg2, Heap.size_push]
  have up2 : ∀ b o, g1.get? b = some o → g2.get? b = some o := fun b o e => hg2 ▸ Heap.get?_push_of_some _ e
  have at2 : g2.get? g1.objs.size = some (lst []) := hg2 ▸ Heap.get?_push_size _ rfl
  generalize hI : s.heap.objs.size = I at *
  generalize hD : g1.objs.size = D at *
  generalize hC : g2.objs.size = C at *
  have ID : I < D := by rw [size1]; exact Nat.lt_succ_self _
  have DC : D < C := by rw [size2]; exact Nat.lt_succ_self _
  have lt1 : ∀ b o, g1.get? b = some o → b < D := fun b o e => hD ▸ Heap.lt_size e
  have lt0 : ∀ b o, s.heap.get? b = some o → b < I := fun b o e => hI ▸ Heap.lt_size e
  have old : ∀ b o, g1.get? b = some o → g3.get? b = some o := fun b o e => sb3.extBut b o (Nat.ne_of_lt (Nat.lt_trans (lt1 b o e) DC)) (Heap.get?_push_of_some _ (up2 b o e))
  have D0 : h₀.get? D = none := by
    cases e : h₀.get? D with
    | none => rfl
    | some o => exact absurd (lt0 _ _ (F₀.keep D o e)) (Nat.lt_asymm ID)
  have C0 : h₀.get? C = none := by
    cases e : h₀.get? C with
    | none => rfl
    | some o => exact absurd (lt0 _ _ (F₀.keep C o e)) (Nat.lt_asymm (Nat.lt_trans ID DC))
  have acc3 : g3.get? D = some (lst []) := sb3.extBut _ _ (Nat.ne_of_lt DC) (Heap.get?_push_of_some _ at2)
  have it3 : g3.IsListIter I ax 0 := it1.at fun o e => old _ o e
  have list3 : g3.IsList ax its.toArray := list1.at fun o e => old _ o e
  have offN : ∀ p ∈ news, p.1 < I := fun p hp => lt0 _ _ (N p hp).1
  have off : Off3 I C D news := Off3.of fun p hp => ⟨Nat.ne_of_lt (offN p hp), Nat.ne_of_lt (Nat.lt_trans (offN p hp) (Nat.lt_trans ID DC)), Nat.ne_of_lt (Nat.lt_trans (offN p hp) ID)⟩
  have W := Walks.list (prog := prog) (w := w) (A := A) hh I ax (Nat.ne_of_lt hlt) its.toArray
  have loop : ∀ s₃ : Shared, (∃ tk, s₃ = { s with heap := g3, toks := tk }) →
      codeAny (model prog w) A (.compLoop (.ListComp elt [⟨.Tuple [.Name x px, .Name x₂ px₂] kt tp, iter, [c], 0⟩] scope pos) 0 (.ref I) (.ref D) (compEnvC scope cl C env))
        (compPost (model prog w) A E (some (assign (.Name y py) env)) (fun _ s' => Q .next s') (.ref D) C) s₃ := by
    rintro s₃ ⟨tk₃, rfl⟩
    refine kct_loop (fun k s' => ∃ h' tk i ys m', s' = { s with heap := h', toks := tk } ∧ i ≤ its.length ∧ k = its.length + 1 - i ∧ ys.length ≤ i ∧ h'.IsListIter I ax i ∧ h'.IsList ax its.toArray ∧ Fr h₀ env.locals h' m ∧ h'.Ns C m' ∧
        News h₀ env.locals h' ((D, lst ys) :: news) ∧ DvsAre ys (picked (log.take i))) ?_ (its.length + 1)
      ⟨g3, _, 0, [], _, rfl, Nat.zero_le _, rfl, Nat.le_refl _, it3, list3, (F₀.keeps up1).keeps old, ns3, ?_, .nil⟩
    · rintro k s' ⟨h', tk, i, ys, m', rfl, hi, rfl, hyl, hit', hli', F', ns', N', hv⟩
      have CI : I ≠ C := Nat.ne_of_lt (Nat.lt_trans ID DC)
      have offm := off.mem
      have news_off : ∀ p ∈ (D, lst ys) :: news, p.1 ≠ I := fun p hp => by
        rcases List.mem_cons.mp hp with rfl | hp
        · exact Nat.ne_of_gt ID
        · exact (offm p hp).1
      have news_offC : ∀ p ∈ (D, lst ys) :: news, p.1 ≠ C := fun p hp => by
        rcases List.mem_cons.mp hp with rfl | hp
        · exact Nat.ne_of_lt DC
        · exact (offm p hp).2.1
      by_cases hil : i < its.length
      · refine W.item i _ _ _ (by simpa using hil) ⟨hit', hli'⟩ fun v h₂ tk₂ hv2 hst2 hk2 => ?_
        obtain ⟨a, k, t, u, d, na, rfl, hma, hdv, htake⟩ := log_get hlog (by simpa using hv2)
        have N₂ : News h₀ env.locals h₂ ((D, lst ys) :: news) := news_but N' hk2 news_off
        have ht : IsTup h₂ a #[.str k t, u] := News.isTup N₂ (.tail _ (him _ hma))
        refine wpAny_letOwnedTupleGo_listiter hst2.1 ?_
        refine assign_Tuple_tuple hh ht rfl rfl fun h₃ he => ?_
        have he' : ∀ b o, h₂.get? b = some o → h₃.get? b = some o := fun b o e => he b o (Nat.ne_of_lt (Heap.lt_size e)) e
        have ns3' : h₃.Ns C m' := (ns'.at' fun o e => hk2 C o (by simpa using Ne.symm CI) e).at' fun o e => he' C o e
        refine assignInOrder_cons (wpAny_assign_Name (wpAny_storeName_local (lookup_relabel_local hx) ns3' (fun h₄ ns4 sb4 => ?_) (by simp [compEnvC, relabel, hkind])))
        refine assignInOrder_cons (wpAny_assign_Name (wpAny_storeName_local (lookup_relabel_local hx₂) ns4 (fun h₅ ns5 sb5 => ?_) (by simp [compEnvC, relabel, hkind])))
        refine assignInOrder_nil ?_
        have up5 : ∀ b o, b ≠ C → h₂.get? b = some o → h₅.get? b = some o := fun b o hb e => sb5.extBut b o hb (sb4.extBut b o hb (he' b o e))
        have F₅ : Fr h₀ env.locals h₅ m := (((fr_but F' hk2 (Nat.ne_of_lt hLlt) I0).keeps he').change sb4 (Nat.ne_of_gt (Nat.lt_trans hLlt (Nat.lt_trans ID DC))) C0).change sb5 (Nat.ne_of_gt (Nat.lt_trans hLlt (Nat.lt_trans ID DC))) C0
        have it5 : h₅.IsListIter I ax (i + 1) := hst2.1.at fun o e => up5 I o CI e
        have li5 : h₅.IsList ax its.toArray := hst2.2.at fun o e => up5 ax o (Nat.ne_of_lt (Nat.lt_trans hlt (Nat.lt_trans ID DC))) e
        obtain ⟨oI, heI, hoI⟩ : ∃ oI, h₅.get? I = some oI ∧ ∀ h : Heap, h.get? I = some oI → h.IsListIter I ax (i + 1) := by
          obtain ⟨oI, e, r⟩ := it5
          exact ⟨oI, e, fun h e' => ⟨oI, e', r⟩⟩
        obtain ⟨oC, heC, hoC⟩ := ns_obj ns5
        have N₅ : News h₀ env.locals h₅ ((I, oI) :: (C, oC) :: (D, lst ys) :: news) := fun p hp => by
          rcases List.mem_cons.mp hp with rfl | hp
          · exact ⟨heI, Nat.ne_of_gt hLlt, I0⟩
          · rcases List.mem_cons.mp hp with rfl | hp
            · exact ⟨heC, Nat.ne_of_gt (Nat.lt_trans hLlt (Nat.lt_trans ID DC)), C0⟩
            · exact ⟨up5 _ _ (news_offC p hp) (N₂ p hp).1, (N₂ p hp).2⟩
        refine turn I C D oI oC ys _ h₅ _ k t u _ _ _ hoC (by simp [hxx]) (by simp) F₅ N₅ off ⟨CI, Nat.ne_of_lt ID, Ne.symm (Nat.ne_of_lt DC)⟩ (fun tk' hk => ?_) (fun tk' hk => ?_)
        · refine append_at (hsz := by show ys.toArray.size ≤ sizeLine; rw [List.size_toArray]; exact Nat.le_trans hyl (Nat.le_trans hi hsz)) (N₅ _ (.tail _ (.tail _ (.head _)))).1 fun h₆ sb6 e6 => ?_
          refine ⟨its.length + 1 - (i + 1), by omega, h₆, _, i + 1, ys ++ [u], _, rfl, hil, rfl, by rw [List.length_append, List.length_singleton]; omega, it5.at fun o e => sb6.extBut _ _ (Nat.ne_of_lt ID) e, li5.at fun o e => sb6.extBut _ _ (Nat.ne_of_lt (Nat.lt_trans hlt ID)) e, F₅.change sb6 (Nat.ne_of_gt (Nat.lt_trans hLlt ID)) D0, ns5.sameBut sb6 (Ne.symm (Nat.ne_of_lt DC)), fun p hp => ?_, ?_⟩
          · rcases List.mem_cons.mp hp with rfl | hp
            · exact ⟨e6.trans (congrArg some (lst_snoc ys u)), Nat.ne_of_gt (Nat.lt_trans hLlt ID), D0⟩
            · exact ⟨sb6.extBut _ _ (offm p hp).2.2 (N₅ p (.tail _ (.tail _ (.tail _ hp)))).1, (N₅ p (.tail _ (.tail _ (.tail _ hp)))).2⟩
          · rw [htake, picked_snoc, if_pos hk]
            exact hv.snoc hdv
        · refine ⟨its.length + 1 - (i + 1), by omega, h₅, tk', i + 1, ys, _, rfl, hil, rfl, by omega, it5, li5, F₅, ns5, fun p hp => N₅ p (.tail _ (.tail _ hp)), ?_⟩
          rw [htake, picked_snoc, if_neg (ne_true_of_eq_false hk), List.append_nil]
          exact hv
      · have hin : i = its.length := Nat.le_antisymm hi (Nat.not_lt.mp hil)
        subst hin
        refine W.done _ _ _ (by simpa using ⟨hit', hli'⟩) fun h₂ tk₂ hk2 => ?_
        have hv' : DvsAre ys (picked log) := by rw [hlog.length, List.take_length] at hv; exact hv
        have F₂ : Fr h₀ env.locals h₂ m := fr_but F' hk2 (Nat.ne_of_lt hLlt) I0
        have N₂ : News h₀ env.locals h₂ ((D, lst ys) :: news) := news_but N' hk2 news_off
        show wpAny _ A (assign (.Name y py) env (.ref D)) _ _ _
        refine wpAny_assign_Name (wpAny_storeName_local hy F₂.ns (fun h₃ ns3' sb3' => ?_) hp)
        have L0 : h₀.get? env.locals = none := Heap.get?_none_of_le F₂.above
        have F₃ : Fr h₀ env.locals h₃ (fun z => if z = y then some (.ref D) else m z) := ⟨ns3', fun b o e => sb3'.extBut b o (fun q => by rw [q, L0] at e; cases e) (F₂.keep b o e), F₂.above⟩
        have CL : C ≠ env.locals := Nat.ne_of_gt (Nat.lt_trans hLlt (Nat.lt_trans ID DC))
        refine ⟨m', (ns'.at' fun o e => hk2 C o (by simpa using Ne.symm CI) e).sameBut sb3' CL, fun h'' sb'' => done D h'' _ ys hv' (F₃.change sb'' CL C0) (fun p hp => ?_) off.one⟩
        exact ⟨sb''.extBut _ _ (news_offC p hp) (sb3'.extBut _ _ (N₂ p hp).2.1 (N₂ p hp).1), (N₂ p hp).2⟩
    · intro p hp
      rcases List.mem_cons.mp hp with rfl | hp
      · exact ⟨acc3, Nat.ne_of_gt (Nat.lt_trans hLlt ID), D0⟩
      · exact ⟨old _ _ (up1 _ _ (N p hp).1), (N p hp).2⟩
  exact codeAny_compStart_list (loop _ ⟨_, rfl⟩) (W.self 0 _ _ _ ⟨it3, list3⟩ (loop _ ⟨_, rfl⟩))
noncomputable def TurnF (prog : Program) (w : World) (A : Around) (h₀ : Heap) (L : Addr) (m : Str → Option Value) (env : Env) (elt : PySem.Expr) (x : Str) (scope : Scope) (cl : List (Str × Addr)) (s : Shared) (news : Led) (y : Str) : Prop :=
  ∀ (c : Nat) (u : Tok) (I C D : Addr) (oI oC : Obj) (ys : List Value) (m₂ : Str → Option Value) (g h : Heap) (tk : Nat) (Rv : Value → Shared → Prop) (E' : Value → Shared → Prop),
    c ∈ y.cps.toList → NsObj oC m₂ → m₂ x = some (.str ⟨#[c]⟩ u) → Fr h₀ L h m → News h₀ L h ((I, oI) :: (C, oC) :: (D, lst ys) :: news) → Off3 I C D news → (@Ne Nat I C) ∧ (@Ne Nat I D) ∧ (@Ne Nat C D) →
    (∀ tk', Rv (.bool false) { s with heap := h, toks := tk' }) →
    wpAny (model prog w) A (eval elt (compEnvC scope cl C env)) Rv E' { s with heap := h, toks := tk }
theorem str_comp {elt iter : PySem.Expr} {x : Str} {px : Pos} {scope : Scope} {cl : List (Str × Addr)} {pos : Pos} {Q : Value → Shared → Prop} {y : Str} {news : Led}
    (F₀ : Fr h₀ L s.heap m) (hclos : closureFor scope env = pure cl) (hcell : ∀ z ∈ scope.names, z.2 ≠ .cell) (hkind : scope.kind = .function)
    (hnames : ∀ z ∈ scope.names, z.2 = .local → scope.names.lookup z.1 = some .local) (hx : scope.names.lookup x = some .local) (hh : A.handled = none)
    (hit : ∀ (R : Value → Shared → Prop), (∀ ty tk, R (.str y ty) { s with toks := tk }) → wpAny (model prog w) A (eval iter env) R E s)
    (hasc : y.cps.all (· < 128) = true) (hsz : y.cps.size ≤ sizeLine) (N : News h₀ L s.heap news)
    (turn : TurnF prog w A h₀ L m env elt x scope cl s news y)
    (done : ∀ D h tk, Fr h₀ L h m → News h₀ L h ((D, lst (List.replicate y.cps.size (.bool false))) :: news) → Off1 D news → Q (.ref D) { s with heap := h, toks := tk })
    (hs : ∀ x, foldedSetIterable iter env x = pure x := by intro _; rfl) :
    wpAny (model prog w) A (eval (.ListComp elt [⟨.Name x px, iter, [], 0⟩] scope pos) env) Q E s := by
  rw [eval_ListComp]
  refine wpAny_comprehension_free (use := none) rfl hs hclos hkind hnames (hit _ fun ty tk₀ => ?_)
  refine wpAny_pyIter_ascii hasc ?_
  have rest : ∀ (g : Heap) (tk₁ : Nat) (k i : Nat), i + k = y.cps.size → CompRest prog w A h₀ L m env elt x scope cl { s with heap := g, toks := tk₁ } (fun nw => nw = news) (SignAt y)
      (fun ys nw => ys = List.replicate y.cps.size (.bool false) ∧ nw = news) k i (List.replicate i (.bool false)) news := by
    intro g tk₁ k
    induction k with
    | zero => exact fun i e => CompRest.zero ⟨by rw [show i = y.cps.size by omega], rfl⟩
    | succ k ih =>
      intro i e
      refine CompRest.succ ?_
      rintro v I oI C oC D m₂ h tk E' ⟨c, u, hc, rfl⟩ hC hm2 F2 N2 off ne
      refine turn c u I C D oI oC _ m₂ g h tk _ _ (by rw [← Array.getElem?_toList] at hc; exact List.mem_of_getElem? hc) hC hm2 F2 N2 off ne fun tk' => ?_
      refine CompEnd.intro F2 N2 news (fun _ h => h) off rfl ?_
      have := ih (i + 1) (by omega)
      rwa [List.replicate_succ'] at this
  refine block_U (S := fun nw => nw = news) (Fin := fun ys nw => ys = List.replicate y.cps.size (.bool false) ∧ nw = news) (Walks.strAscii hh _ y ty) hsz (fun i h st => by obtain ⟨o, e, _⟩ := st; exact ⟨o, e⟩) (fun i h h' o nw st e e' _ _ _ => ?_) hcell hkind hx ⟨_, Heap.get?_push_size _ rfl, rfl, rfl⟩ (fun b hb => ?_)
    (F₀.keeps fun _ _ e => Heap.get?_push_of_some _ e) (N.grown fun _ _ e => Heap.get?_push_of_some _ e) (Nat.ne_of_lt F₀.ns.lt) (next_is_new F₀) (fun p hp => Nat.ne_of_lt (Heap.lt_size (N p hp).1)) rfl (rest _ _ _ 0 (Nat.zero_add _)) ?_
  · obtain ⟨o2, e2, r2⟩ := st
    rw [e2] at e
    cases e
    exact ⟨_, e', r2⟩
  · rw [List.mem_singleton.mp hb]
    show _ < (s.heap.push _).objs.size
    rw [Heap.size_push]
    exact Nat.lt_succ_self _
  · rintro D C h tk m' ys news' F' N' o1 hn hC₀ hD₀ hCL hDL hCD offC ⟨rfl, rfl⟩
    refine ⟨m', hn, fun h'' hs'' => done D h'' tk (F'.change hs'' hCL hC₀) (fun p hp => ?_) o1⟩
    refine ⟨hs''.extBut _ _ ?_ (N' p hp).1, (N' p hp).2⟩
    rcases List.mem_cons.mp hp with rfl | hp
    · exact Ne.symm hCD
    · exact offC p hp
end
end Mine
end
section
open PySem PySem.Spec PySem.Calls PySem.W PyProof.Rows
namespace Mine
noncomputable abbrev frL (cl L : Nat) (c0 c1 c2 : Int) (t0 t1 t2 : Tok) (wc wr wl : Obj) (ps : Array Value) : Led := [((cl : Nat), listOf #[.int c0 t0, .int c1 t1, .int c2 t2] 0), ((L + 1 + 1 + 1 : Nat), wl), ((L + 1 + 1 : Nat), wr), ((L + 1 : Nat), wc), ((448 : Nat), tabObj ps)]
theorem frLt {cl L D : Nat} {c0 c1 c2 : Int} {t0 t1 t2 : Tok} {wc wr wl : Obj} {ps : Array Value} (hcl : L + 1 + 1 + 1 < cl) (hL : 448 < L) (h : cl < D) : AllLt D (frL cl L c0 c1 c2 t0 t1 t2 wc wr wl ps) := ⟨h, by omega, by omega, by omega, by show 448 < D; omega, trivial⟩
theorem frSep {cl L : Nat} {c0 c1 c2 : Int} {t0 t1 t2 : Tok} {wc wr wl wc' wr' wl' : Obj} {ps ps' : Array Value} {im : Led} (hs : Sep (frL cl L c0 c1 c2 t0 t1 t2 wc wr wl ps) im) : Sep (frL cl L c0 c1 c2 t0 t1 t2 wc' wr' wl' ps') im :=
  allP_cons (hs (cl, _) (.head _)) (allP_cons (hs (L + 1 + 1 + 1, wl) (.tail _ (.head _))) (allP_cons (hs (L + 1 + 1, wr) (.tail _ (.tail _ (.head _)))) (allP_cons (hs (L + 1, wc) (.tail _ (.tail _ (.tail _ (.head _))))) (allP_cons (hs (448, tabObj ps) (.tail _ (.tail _ (.tail _ (.tail _ (.head _)))))) allP_nil))))
theorem frSepH {cl L hx vd lg : Nat} {c0 c1 c2 : Int} {t0 t1 t2 : Tok} {wc wr wl : Obj} {ps : Array Value} (hcl : L + 1 + 1 + 1 < cl) (hL : 448 < L) (h1 : cl < hx) (h2 : cl < vd) (h3 : cl < lg) : SepH (frL cl L c0 c1 c2 t0 t1 t2 wc wr wl ps) hx vd lg :=
  allP_cons ⟨Nat.ne_of_lt h1, Nat.ne_of_lt h2, Nat.ne_of_lt h3⟩ (allP_cons ⟨Nat.ne_of_lt (by omega), Nat.ne_of_lt (by omega), Nat.ne_of_lt (by omega)⟩ (allP_cons ⟨Nat.ne_of_lt (by omega), Nat.ne_of_lt (by omega), Nat.ne_of_lt (by omega)⟩ (allP_cons ⟨Nat.ne_of_lt (by omega), Nat.ne_of_lt (by omega), Nat.ne_of_lt (by omega)⟩ (allP_cons ⟨Nat.ne_of_lt (by show 448 < hx; omega), Nat.ne_of_lt (by show 448 < vd; omega), Nat.ne_of_lt (by show 448 < lg; omega)⟩ allP_nil))))
noncomputable abbrev frM (first : Str) (turn : Int) (t1 tt : Tok) (ndv toldv : Value) : List (Str × Value) := [(Str.ofString "first", .str first t1), (Str.ofString "node", ndv), (Str.ofString "told", toldv), (Str.ofString "turn", .int turn tt)]
noncomputable def JL (im : Led) (cl L : Nat) (c0 c1 c2 : Int) (t0 t1 t2 : Tok) (wc : Obj) (first : Str) (tf : Tok) (ndv toldv : Value) (n : Nat) (m : Str → Option Value) (news : Led) : Prop :=
  ∃ wr wl vl row turn tr tt, news = frL cl L c0 c1 c2 t0 t1 t2 wc wr wl #[] ++ im ∧ wr.data = .cell (some (.str row tr)) ∧ wl.data = .cell vl ∧ row.length = n ∧ Inv first row turn ∧ ∀ p ∈ frM first (turn : Nat) tf tt ndv toldv, m p.1 = some p.2
theorem sepNil {fr : Led} : Sep fr [] := fun _ _ _ hq => nomatch hq
end Mine
end
section
open PySem PySem.Spec PySem.Calls PySem.W PyProof.Rows
namespace Mine
local macro_rules | `(tactic| k_all) => `(tactic| assumption)
local macro_rules | `(tactic| k_mem) => `(tactic| first | assumption | (refine' List.mem_cons_of_mem _ ?_; k_mem))
local macro_rules | `(tactic| walk_at "subscriptTail Name Constant ref int") => `(tactic| (k_here; k_dflt ((first | ((with_reducible show wpAny _ _ (subscriptTail _ _ (Value.ref _) (Value.int 0 _)) _ _ _); refine' tup_i0 ?k1 ?_ ?k7 ?k8) | ((with_reducible show wpAny _ _ (subscriptTail _ _ (Value.ref _) (Value.int 1 _)) _ _ _); refine' tup_i1 ?k1 ?_ ?k7 ?k8) | ((with_reducible show wpAny _ _ (subscriptTail _ _ (Value.ref _) (Value.int 2 _)) _ _ _); refine' tup_i2 ?k1 ?_ ?k7 ?k8)); (case k1 => exact News.isTup (by k_asm) (by k_mem)); (case k7 => with_unfolding_all rfl); (case k8 => intro _; with_unfolding_all rfl))))
local macro_rules | `(tactic| walk_at "call ref") => `(tactic| (k_here; (with_reducible show wpAny _ _ (call (Value.ref _) _) _ _ _); k_dflt (refine wpAny_call ?_; (refine' code_def ?k1 ?k2 ?k3 ?k4 ?k5 ?kA ?kF ?kK ?k6 ?k7 ?k8 ?k9 ?kB ?_ ?c2 ?c3 ?c4 ?c5; (case kA => exact rfl); (case kF => exact rfl); (case kK => exact rfl); (case k1 => k_asm); (case k2 => k_asm); (case k3 => k_asm); (case k4 => k_asm); (case k5 => k_asm); (case k6 => k_is); (case k7 => k_is); (case k8 => ktr_room); (case k9 => exact BindsTo.of_eq rfl); (case c5 => decide); (case kB => exact locs rfl); (case c2 => exact rfl); (case c3 => exact rfl); (case c4 => exact rfl); k_whole; intro g' L' h' FG' F' N' B' X' T'; (try dsimp only); (try k_fold)))))
section
variable {prog : Program} {w : World} {p : Program} {loose : List Str} {mean : ExcName → Option Value} {mg mb : Str → Option Value}
set_option maxRecDepth 100000
set_option maxHeartbeats 4000000
theorem spliced_does {fr : Led} {sub txt : Str} {t1 t2 tb tk : Tok} {b : Int} {b' k n : Nat} {D : Addr} {v : Value} (hb : b = (b' : Int)) (hm : (D, tup #[.int b tb, .int (k : Int) tk, v] n) ∈ fr) (h1 : sub.length ≤ 1000) (h2 : txt.length ≤ 1000) (hb1 : b' ≤ 1000) (hk1 : k ≤ 1000) :
    Does prog w (KK w.params) p loose mean mg mb 35 10 100 [.str sub t1, .ref D, .str txt t2] fr (fun r news' => (∀ q ∈ fr, q ∈ news') ∧ ∃ t, r = .str (splice sub b' k txt) t) := by
  subst hb
  unfold Does
  intro dp un gd cn cs aa ccd cl outer A₀ base h₀ L m s Q E B F X N T hkk hdp hun hret
  refine wpAny_call ?_
  k_dflt ktr_enter
  k_steps
  (with_reducible rename News h₀ L _ _ => kN)
  refine hret _ _ _ _ (by assumption) kN ⟨?_, _, rfl⟩
  intro q hq
  first | exact hq | exact .tail _ hq | exact .tail _ (.tail _ hq)
end
end Mine
end
section
open PySem PySem.Spec PySem.Calls PySem.W PyProof.Rows
open Mine
local macro_rules | `(tactic| k_mem) => `(tactic| first | assumption | (refine' List.mem_cons_of_mem _ ?_; k_mem))
local macro_rules | `(tactic| k_all) => `(tactic| assumption)
local macro_rules | `(tactic| k_room) => `(tactic| ktr_room)
local macro_rules | `(tactic| walk_at "callWith ref") => `(tactic| (k_here; k_dflt (refine' callWith_K ?k1 ?k2 ?_; (case k1 => k_asm); (case k2 => k_is); k_whole)))
local macro_rules | `(tactic| walk_at "call ref") => `(tactic| (k_here; (with_reducible show wpAny _ _ (call (Value.ref 236) _) _ _ _); k_dflt (refine' Does.use mk_does ?k1 ?k2 ?k3 ?k4 ?k5 ?k6 ?k7 ?k8 ?k9 ?_; (case k1 => k_asm); (case k2 => k_asm); (case k3 => k_asm); (case k4 => k_asm); (case k5 => k_asm); (case k6 => exact rfl); (case k7 => (exact fun q hq => hq)); (case k8 => ktr_room); (case k9 => ktr_units); k_whole); (intro r' led' h' tk' F' N' P'); (unfold MkPost at P'); (obtain ⟨x', d', g', a1', a2', a3', a4', a5', a6', b1', b2', b3', b4', b5', b6', b7', b8', b9', Pe, Pn, Pl1, Pl2, Pl3⟩ := P'); (subst Pe); (subst Pn); (try simp only [AllLt, and_true] at Pl3); (try dsimp only); (try k_sweep)))
local macro_rules | `(tactic| walk_at "call ref") => `(tactic| (k_here; (with_reducible show wpAny _ _ (call (Value.ref 49) _) _ _ _); refine stop_intro ?_))
local macro_rules | `(tactic| walk_at "newTuple") => `(tactic| (k_here; k_dflt (refine' kup_newTuple ?F ?N ?_ ?z; (case F => k_asm); (case N => k_asm); (case z => kmk_size)); intro D' h' F' N' l1; (try k_lt l1); (try k_sweep)))
section
open PySem PySem.Spec PySem.Calls PySem.W PyProof.Rows
namespace Mine
theorem spliced_place {prog : Program} {w : World} {p : Program} {loose : List Str} {mean : ExcName → Option Value} {mg mb : Str → Option Value} {fr : Led} {sub txt : Str} {t1 t2 tb tk : Tok} {k n : Nat} {D : Addr} {v : Value} (hm : (D, tup #[.int ((k : Int) - 2) tb, .int (k : Int) tk, v] n) ∈ fr) (h1 : sub.length ≤ 1000) (h2 : txt = Str.ofString "") (hk : 2 ≤ k) (hk1 : k ≤ 1000) (hp : (k : Int) ∈ places sub) :
    Does prog w (KK w.params) p loose mean mg mb 35 10 100 [.str sub t1, .ref D, .str txt t2] fr (fun r news' => (∀ q ∈ fr, q ∈ news') ∧ ∃ y t, r = .str y t ∧ y.length + 2 = sub.length ∧ Fewer sub y) := by
  subst h2
  unfold Does
  intro dp un gd cn cs aa ccd cl outer A₀ base h₀ L m s Q E B F X N T hkk hdp hun hret
  refine spliced_does (v := v) (b' := k - 2) (by omega) hm h1 (by decide) (by omega) hk1 dp un gd cn cs aa ccd cl outer A₀ base h₀ L m s Q E B F X N T hkk hdp hun ?_
  intro r news' h' tk' F' N' P'
  obtain ⟨Pm, t, rfl⟩ := P'
  exact hret _ _ _ _ F' N' ⟨Pm, _, _, rfl, step_ok hp⟩
theorem place_item {prog : Program} {w : World} {A : Around} {E : Value → Shared → Prop} {s : Shared} {value slice : PySem.Expr} {h₀ : Heap} {L D k : Nat} {news : Led} {its : List Value} {row : Str} {i : Int} {u : Tok} {Q : Value → Shared → Prop} (N : News h₀ L s.heap news) (hm : (D, listOf its.toArray k) ∈ news) (hi : IntsAre its (places row)) (h0 : 0 ≤ i) (h1 : i < ((places row).length : Int)) (hz : (places row).length ≤ 100)
    (h : ∀ (k : Nat) t, 2 ≤ k → k ≤ row.length → (k : Int) ∈ places row → Q (.int (k : Int) t) s)
    (hs : subscripted slice false (.ref D) (.int i u) = operate [.ref D, .int i u] (getItem (.ref D) (.int i u))) : wpAny (model prog w) A (subscriptTail value slice (.ref D) (.int i u)) Q E s := by
  refine int_item N hm hi h0 h1 ?hz ?h hs
  case hz => omega
  case h =>
    intro p t hp
    obtain ⟨k, rfl, a, b⟩ := place_is hp
    exact h k t a b hp
local macro_rules | `(tactic| walk_at "exec While") => `(tactic| (k_here; refine stop_intro ?_))
local macro_rules | `(tactic| walk_at "call ref") => `(tactic| (k_here; (with_reducible show wpAny _ _ (call (Value.ref 397) _) _ _ _); refine stop_intro ?_))
local macro_rules | `(tactic| walk_at "binaryOp FloorDiv int int") => `(tactic| (k_here; k_dflt (refine floordiv_int (b := HPow.hPow _ _) ?kbe ?_ (Or.inl (PyProof.noPylong_of_log2 ?kbp)); (case kbe => exact Int.ne_of_gt (pow_pos_of (by decide) _)); (case kbp => exact pow_py7 (by omega)))))
local macro_rules | `(tactic| walk_at "binaryOp Mod int int") => `(tactic| (k_here; (with_reducible show wpAny _ _ (binaryOp _ _ (Value.int (Int.ofNat _) _)) _ _ _); k_dflt (refine mod_int' ?kbe ?_; (case kbe => omega))))
local macro_rules | `(tactic| walk_at "subscriptTail Name BinOp ref int") => `(tactic| (k_here; (with_reducible show wpAny _ _ (subscriptTail _ _ (Value.ref _) (Value.int (Int.fmod _ _) _)) _ _ _); k_dflt (refine' place_item ?k1 ?k2 ?k3 ?k4 ?k5 ?k6 ?_ ?k7; (case k1 => k_asm); (case k2 => k_mem); (case k3 => assumption); (case k4 => exact fmod_lo _ (by omega)); (case k5 => exact fmod_hi _ (by omega)); (case k6 => omega); (case k7 => with_unfolding_all rfl)); intro kP tP hP1 hP2 hP))
local macro_rules | `(tactic| walk_at "pyIter ref") => `(tactic| (k_here; refine stop_intro ?_))
local macro_rules | `(tactic| walk_at "call ref") => `(tactic| (k_here; (with_reducible show wpAny _ _ (call (Value.ref 35) _) _ _ _); k_dflt (refine' Does.use (spliced_place ?hm ?h1 ?h2 ?h3 ?h4 ?h5) ?k1 ?k2 ?k3 ?k4 ?k5 ?k6 ?k7 ?k8 ?k9 ?_; (case k1 => k_asm); (case k2 => k_asm); (case k3 => k_asm); (case k4 => k_asm); (case k5 => k_asm); (case k6 => exact rfl); (case k7 => (exact fun q hq => hq)); (case hm => k_mem); (case h1 => omega); (case h2 => rfl); (case h3 => assumption); (case h4 => omega); (case h5 => assumption); (case k8 => ktr_room); (case k9 => ktr_units); k_whole); (intro r' led' h' tk' F' N' P'); (obtain ⟨Pm, yS, tS, Pe, hS1, hS2⟩ := P'); (subst Pe); (replace N' := News.sub N' Pm); clear Pm; (try dsimp only); (try k_sweep)))
local macro_rules | `(tactic| walk_at "eval ListComp") => `(tactic| (k_here; refine stop_intro ?_))
local macro_rules | `(tactic| walk_at "subscriptTail Name Constant ref int") => `(tactic| (k_here; k_dflt ((first | ((with_reducible show wpAny _ _ (subscriptTail _ _ (Value.ref _) (Value.int 0 _)) _ _ _); refine' lst_i0 ?k1 ?_ ?k7 ?k8) | ((with_reducible show wpAny _ _ (subscriptTail _ _ (Value.ref _) (Value.int 1 _)) _ _ _); refine' lst_i1 ?k1 ?_ ?k7 ?k8) | ((with_reducible show wpAny _ _ (subscriptTail _ _ (Value.ref _) (Value.int 2 _)) _ _ _); refine' lst_i2 ?k1 ?_ ?k7 ?k8)); (case k1 => exact News.isList (by k_asm) (by k_mem)); (case k7 => with_unfolding_all rfl); (case k8 => intro _; with_unfolding_all rfl))))
section
variable {fa : Addr} {prog : Program} {w : World} {p : Program} {loose : List Str} {mean : ExcName → Option Value} {mg mb : Str → Option Value}
set_option maxRecDepth 100000
set_option maxHeartbeats 0
theorem law2_turn {A₀ : Around} {base h₀ h₁ : Heap} {outer : List Env} {L cl pl kk turn : Nat} {im : Led} {m : Str → Option Value} {wc wr wl : Obj} {vl : Option Value} {c0 c1 c2 : Int} {t0 t1 t2 tf tr tt : Tok} {first row : Str} {its' : List Value} {ndv toldv : Value} {dp un tk : Nat} {gd : Option (List Code)} {s₀ : Shared} {Q : Flow → Shared → Prop} {E : Value → Shared → Prop}
    (B : Below A₀ base outer h₀) (X : (KK w.params).In h₀) (T : Top p loose mean mg mb h₀) (F : Fr h₀ L h₁ m)
    (N : News h₀ L h₁ ((pl, listOf its'.toArray kk) :: (frL cl L c0 c1 c2 t0 t1 t2 wc wr wl #[] ++ im))) (hs : Sep (frL cl L c0 c1 c2 t0 t1 t2 wc wr wl #[]) im) (hw : wc.data = .cell (some (.ref cl))) (hwr : wr.data = .cell (some (.str row tr))) (hwl : wl.data = .cell vl) (hL : 448 < L) (hcl : L + 1 + 1 + 1 < cl)
    (hp3 : @Ne Nat pl (L + 1 + 1 + 1)) (hp2 : @Ne Nat pl (L + 1 + 1)) (hints : IntsAre its' (places row)) (hpos : 0 < (places row).length)
    (hm : ∀ p ∈ (Str.ofString "places", Value.ref pl) :: frM first (turn : Nat) tf tt ndv toldv, m p.1 = some p.2) (hg : Inv first row turn)
    (hdp : dp + 250 < recursionLimit) (hun : un + 2500 < cLine) :
    wpAny (model prog w) ((lawTop dp un gd outer).deeper (lawEnv fa L)) (execs turnB4 (lawEnv fa L)) (WhileStep2 h₀ L s₀ (JL im cl L c0 c1 c2 t0 t1 t2 wc first tf ndv toldv) Q row.length) E { s₀ with heap := h₁, toks := tk } := by
  rw [knownL _ hm] at F
  have hln := hints.length
  have htu : turn ≤ 3 := by have := hg.sum; have := hg.fl; omega
  have hpz : (places row).length ≤ 100 := by
    have h1 : (places row).length ≤ row.length := by
      unfold places
      rw [List.length_map]
      exact Nat.le_trans (List.length_filter_le _ _) (by rw [List.length_range]; omega)
    have := hg.len
    omega
  unfold turnB4
  unfold lawEnv lawScope lit at *
  simp only [frL, List.cons_append, List.nil_append] at N
  have oL3 : ∀ q ∈ im, q.1 ≠ L + 1 + 1 + 1 := hs _ (.tail _ (.head _))
  have oL2 : ∀ q ∈ im, q.1 ≠ L + 1 + 1 := hs _ (.tail _ (.tail _ (.head _)))
  have hrl := hg.len
  k_steps
  · rename_i hbad
    exact absurd hbad (by omega)
  unfold Stop
  (with_reducible rename Fr h₀ L _ _ => kF)
  (with_reducible rename News h₀ L _ _ => kN)
  refine str_comp (y := Str.ofString "abc") kF (by with_unfolding_all rfl) (by decide) (by rfl) (by decide) (by rfl) (by rfl) ?hit (by decide +kernel) (by decide +kernel) kN ?turn ?done
  case hit =>
    intro R hR
    k_steps
    exact hR _ _
  case turn =>
    rename Fewer _ _ => hFew
    unfold TurnF
    intro c u I C D oI oC ys m₂ g h tk Rv E' hcm hC hx2 F' N' off ne hno
    k_steps
    rw [decide_eq_false (by rw [count_cnt, count_cnt]; have := hFew.1 c; omega)]
    exact hno _
  case done =>
    rename Fewer _ _ => hFew
    rename (_ : Nat) + 2 = row.length => hlen2
    rename Obj.data _ = Data.cell (some (Value.str _ _)) => kl
    intro D h tk F' N' off
    have oD : @Ne Nat D (L + 1 + 1) := Ne.symm off.2.2.2.2.2.1
    clear kF kN
    k_steps
    (with_reducible rename Fr h₀ L _ _ => kF2)
    (with_reducible rename News h₀ L _ _ => kN2)
    rename Obj.data _ = Data.cell (some (Value.str _ _)) => kd
    refine ws_next (n' := _) kF2 (News.sub (l' := frL cl L c0 c1 c2 t0 t1 t2 wc _ _ #[] ++ im) kN2 ?hsub) (by show Str.length _ < row.length; omega) ⟨_, _, _, _, turn + 1, _, _, rfl, kd, kl, rfl, hg.step hlen2 hFew, allP_cons rfl (allP_cons rfl (allP_cons rfl (allP_cons rfl allP_nil)))⟩
    case hsub =>
      exact fun q hq => (.tail _ (.tail _ (.tail _ (.tail _ (.tail _ hq)))))
end
end Mine
end
section
open PySem PySem.Spec PySem.Calls PySem.W PyProof.Rows
namespace Mine
local macro_rules | `(tactic| k_room) => `(tactic| first | assumption | exact And.left (by assumption) | exact And.left (And.right (by assumption)) | exact And.left (And.right (And.right (by assumption))) | exact And.left (And.right (And.right (And.right (by assumption)))) | exact And.left (And.right (And.right (And.right (And.right (by assumption))))) | exact And.left (And.right (And.right (And.right (And.right (And.right (by assumption)))))) | exact And.left (And.right (And.right (And.right (And.right (And.right (And.right (by assumption))))))) | exact And.left (And.right (And.right (And.right (And.right (And.right (And.right (And.right (by assumption)))))))) | exact And.left (And.right (And.right (And.right (And.right (And.right (And.right (And.right (And.right (by assumption))))))))) | exact And.left (And.right (And.right (And.right (And.right (And.right (And.right (And.right (And.right (And.right (by assumption)))))))))) | exact And.left (And.right (And.right (And.right (And.right (And.right (And.right (And.right (And.right (And.right (And.right (by assumption))))))))))) | exact And.left (And.right (And.right (And.right (And.right (And.right (And.right (And.right (And.right (And.right (And.right (And.right (by assumption)))))))))))) | exact And.left (And.right (And.right (And.right (And.right (And.right (And.right (And.right (And.right (And.right (And.right (And.right (And.right (by assumption))))))))))))) | exact And.left (And.right (And.right (And.right (And.right (And.right (And.right (And.right (And.right (And.right (And.right (And.right (And.right (And.right (by assumption)))))))))))))) | exact And.left (And.right (And.right (And.right (And.right (And.right (And.right (And.right (And.right (And.right (And.right (And.right (And.right (And.right (And.right (by assumption))))))))))))))) | exact And.left (And.right (And.right (And.right (And.right (And.right (And.right (And.right (And.right (And.right (And.right (And.right (And.right (And.right (And.right (And.right (by assumption)))))))))))))))) | exact And.left (And.right (And.right (And.right (And.right (And.right (And.right (And.right (And.right (And.right (And.right (And.right (And.right (And.right (And.right (And.right (And.right (by assumption))))))))))))))))) | omega)
local macro_rules | `(tactic| walk_at "exec While") => `(tactic| (k_here; refine stop_intro ?_))
local macro_rules | `(tactic| walk_at "call ref") => `(tactic| (k_here; (with_reducible show wpAny _ _ (call (Value.ref 397) _) _ _ _); refine stop_intro ?_))
local macro_rules | `(tactic| walk_at "binaryOp FloorDiv int int") => `(tactic| (k_here; k_dflt (refine floordiv_int (b := HPow.hPow _ _) ?kbe ?_ (Or.inl (PyProof.noPylong_of_log2 ?kbp)); (case kbe => exact Int.ne_of_gt (pow_pos_of (by decide) _)); (case kbp => exact pow_py7 (by omega)))))
local macro_rules | `(tactic| walk_at "binaryOp Mod int int") => `(tactic| (k_here; (with_reducible show wpAny _ _ (binaryOp _ _ (Value.int (Int.ofNat _) _)) _ _ _); k_dflt (refine mod_int' ?kbe ?_; (case kbe => omega))))
local macro_rules | `(tactic| walk_at "subscriptTail Name BinOp ref int") => `(tactic| (k_here; (with_reducible show wpAny _ _ (subscriptTail _ _ (Value.ref _) (Value.int (Int.fmod _ _) _)) _ _ _); k_dflt (refine' int_item ?k1 ?k2 ?k3 ?k4 ?k5 ?k6 ?_ ?k7; (case k1 => k_asm); (case k2 => k_mem); (case k3 => assumption); (case k4 => exact fmod_lo _ (by omega)); (case k5 => exact fmod_hi _ (by omega)); (case k6 => omega); (case k7 => with_unfolding_all rfl)); intro pP tP hP))
local macro_rules | `(tactic| walk_at "pyIter ref") => `(tactic| (k_here; refine stop_intro ?_))
local macro_rules | `(tactic| walk_at "exec Assign cons ListComp") => `(tactic| (k_here; refine stop_intro ?_))
local macro_rules | `(tactic| walk_at "execs cons") => `(tactic| (k_here; (with_reducible show wpAny _ _ (execs (Stmt.Assign [PySem.Expr.Name (Str.ofString "place") _] _ _ :: _) _) _ _ _); refine stop_intro ?_))
section
variable {fa : Addr} {prog : Program} {w : World} {p : Program} {loose : List Str} {mean : ExcName → Option Value} {mg mb : Str → Option Value}
set_option maxRecDepth 100000
set_option maxHeartbeats 0
theorem known_at {h₀ h : Heap} {L : Addr} {m : Str → Option Value} {l : List (Str × Value)} (F : Fr h₀ L h m) (hk : ∀ p ∈ l, m p.1 = some p.2) : Fr h₀ L h (fun y => match l.lookup y with | some v => some v | none => m y) := by
  rw [knownL _ hk] at F; exact F
theorem off1_mem {D : Addr} : ∀ {l : Led}, LCg.Off1 D l → ∀ p ∈ l, p.1 ≠ D
  | [], _, _, hp => nomatch hp
  | q :: r, h, p, hp => by
    rcases List.mem_cons.mp hp with rfl | hp
    · exact h.1
    · exact off1_mem h.2 p hp
theorem law2_loop {tl : List Stmt} {A₀ : Around} {base h₀ h₁ : Heap} {outer : List Env} {L cl : Nat} {im : Led} {m : Str → Option Value} {wc wr wl : Obj} {c0 c1 c2 : Int} {t0 t1 t2 tf tr tt : Tok} {first : Str} {ndv toldv : Value} {dp un tk : Nat} {gd : Option (List Code)} {s : Shared} {Q : Flow → Shared → Prop} {E : Value → Shared → Prop}
    (B : Below A₀ base outer h₀) (X : (KK w.params).In h₀) (T : Top p loose mean mg mb h₀) (F : Fr h₀ L h₁ m)
    (N : News h₀ L h₁ (frL cl L c0 c1 c2 t0 t1 t2 wc wr wl #[] ++ im)) (hs : Sep (frL cl L c0 c1 c2 t0 t1 t2 wc wr wl #[]) im) (hw : wc.data = .cell (some (.ref cl))) (hwr : wr.data = .cell (some (.str first tr))) (hwl : wl.data = .cell none) (hL : 448 < L) (hcl : L + 1 + 1 + 1 < cl) (C : CodeHd h₀ 450 448)
    (ht : NodeIn im toldv toldNd) (hn : NodeIn im ndv nodeNd)
    (p2 : 0 ≤ c2) (hm : ∀ p ∈ frM first 0 tf tt ndv toldv, m p.1 = some p.2) (hg : Inv first first 0)
    (hdp : dp + 250 < recursionLimit) (hun : un + 2500 < cLine) (hEE : PassesOwn (model prog w) ((lawTop dp un gd outer).deeper (lawEnv fa L)) (lawEnv fa L) E)
    (fin : ∀ (m' : Str → Option Value) (wr' wl' : Obj) (row : Str) (turn : Nat) (tr' tt' : Tok) h' tk', Fr h₀ L h' m' → News h₀ L h' (frL cl L c0 c1 c2 t0 t1 t2 wc wr' wl' #[] ++ im) → Sep (frL cl L c0 c1 c2 t0 t1 t2 wc wr' wl' #[]) im → wr'.data = .cell (some (.str row tr')) → (∀ p ∈ frM first (turn : Nat) tf tt' ndv toldv, m' p.1 = some p.2) → Inv first row turn → places row = [] → wpAny (model prog w) ((lawTop dp un gd outer).deeper (lawEnv fa L)) (execs tl (lawEnv fa L)) Q E { s with heap := h', toks := tk' }) :
    wpAny (model prog w) ((lawTop dp un gd outer).deeper (lawEnv fa L)) (execs (hLoop ++ tl) (lawEnv fa L)) Q E { s with heap := h₁, toks := tk } := by
  have o448 : ∀ q ∈ im, q.1 ≠ 448 := hs _ (.tail _ (.tail _ (.tail _ (.tail _ (.head _)))))
  unfold hLoop
  unfold lawEnv lawScope lit at *
  simp only [List.cons_append, List.nil_append]
  k_steps
  unfold Stop
  have hg0 := hg
  refine While_inv2 (JL im cl L c0 c1 c2 t0 t1 t2 wc first tf ndv toldv) F (n₀ := first.length) N ⟨wr, wl, _, first, 0, tr, tt, rfl, hwr, hwl, rfl, hg, hm⟩ ?_ ?_
  · rintro n m₁ news₁ h₁ tk₁ F₁ N₁ ⟨wr, wl, vl, row, turn, tr, tt, rfl, hwr, hwl, rfl, hg, hm1⟩
    rw [knownL _ hm1] at F₁
    have hrl := hg.len
    clear hm hm1
    replace hs := frSep (wr' := wr) (wl' := wl) (wc' := wc) (ps' := #[]) hs
    simp only [List.cons_append, List.nil_append] at N₁
    k_steps
    unfold Stop
    rename_i vd _ o lo hd _ _ _ q1 rf _ q2 _ tkx x hx lg g1 g2 g3 g4 g5 g6 b1 b2 b3 b4 b5 b6 b7 b8 b9 e1 e2 e3 _ kF kN
    obtain ⟨H1, hml, hlz, hpick⟩ := look_ok hrl
    have hh0 := hostNew (h1 := g1) (h2 := g2) (h3 := g3) (h4 := g4) (h5 := g5) (h6 := g6) (t1 := b1) (t2 := b2) (t3 := b3) (t4 := b4) (t5 := b5) (t6 := b6) (u2 := b7) (u4 := b8) (u5 := b9) (im := im) (x := x) (hx := hx) (vd := vd) (lg := lg) (rf := rf) hd lo q1.2.2.2.2.2 (by k_room) (by k_room) (by k_room) (by k_room)
    refine Does.use (match_plain_does (fr := frL cl L c0 c1 c2 t0 t1 t2 wc wr wl #[]) (anch := false) (ht.mono fun q hq => .tail _ (.tail _ hq)) hh0 (Sep.up (frLt hcl hL (by k_room)) (Sep.up (frLt hcl hL (by k_room)) hs)) (frSepH hcl hL (by k_room) (by k_room) (by k_room)) (by k_room) hml) (by assumption) kF (by assumption) kN (by assumption) rfl ?_ (by ktr_room) (by ktr_units) ?_
    · intro q hq
      simp only [List.mem_cons, List.mem_append, List.not_mem_nil, or_false] at hq ⊢
      rcases hq with (h | h | h) | (h | h | h) | h | h | h | h | h <;> simp [h]
    intro r5 news5 h5 tk5 F5 N5 P5
    obtain ⟨mu5, im5, hm5, hsub5, hs5, hh5, hf5⟩ := P5
    replace N5 := News.sub N5 hm5
    clear hm5 kF kN hh0
    cases hf5
    cases hh5 with
    | @mk rf5 o5 kvs5 its5 n5 _ _ _ _ _ _ _ _ _ _ _ _ _ _ _ vals5 log5 steps5 hx_ rf_ vd_ vals_ log_ n1 n2 n3 n4 n5 n6 o1 o2 o3 lo vz =>
    simp only [List.cons_append, List.nil_append] at N5
    have hx' := List.mem_append_left (frL cl L c0 c1 c2 t0 t1 t2 wc wr wl #[]) hx_
    k_steps
    unfold Stop
    (with_reducible rename Fr h₀ L _ _ => kF)
    (with_reducible rename News h₀ L _ _ => kN)
    dsimp only at hpick hlz
    have hlog := log_.length
    refine log_comp (ax := lg) (its := its5) (im := im5) (log := log5) kF rfl (by with_unfolding_all rfl) (by with_unfolding_all rfl) (by decide) (by rfl) (by decide) (by rfl) (by rfl) (by decide) (by rfl) (by rfl) (by rfl) ?hit kN (by k_mem) (fun q hq => .tail _ (.tail _ (.tail _ (List.mem_append_left _ hq)))) log_ (by rw [sizeLine_eq]; omega) ?turn ?done
    case hit =>
      intro R hR
      k_steps
      exact hR _
    case turn =>
      unfold Turn
      intro I C D oI oC ys m₂ h tk k t v Rv Rf E' hC ha hb F' N' off ne hyes hno
      k_steps
      all_goals first | exact hyes _ (by assumption) | exact hno _ (by assumption)
    case done =>
      intro D h tk ys hv F6 N6 off6
      rw [hpick] at hv
      have hints := hv.ints
      dsimp only
      have off7 := off1_mem off6
      have inF : ∀ q ∈ frL cl L c0 c1 c2 t0 t1 t2 wc wr wl #[], q.1 ≠ D := fun q hq => off7 q (.tail _ (.tail _ (.tail _ (List.mem_append_right _ hq))))
      have hp3 : @Ne Nat D (L + 1 + 1 + 1) := Ne.symm (inF (L + 1 + 1 + 1, wl) (.tail _ (.head _)))
      have hp2 : @Ne Nat D (L + 1 + 1) := Ne.symm (inF (L + 1 + 1, wr) (.tail _ (.tail _ (.head _))))
      replace N6 := News.sub (l' := (D, listOf ys.toArray ys.length) :: (frL cl L c0 c1 c2 t0 t1 t2 wc wr wl #[] ++ im)) N6 (by
        intro q hq
        rcases List.mem_cons.mp hq with h | h
        · rw [h]; exact .head _
        · rcases List.mem_append.mp h with h | h
          · exact .tail _ (.tail _ (.tail _ (.tail _ (List.mem_append_right _ h))))
          · exact .tail _ (.tail _ (.tail _ (.tail _ (List.mem_append_left _ (hsub5 q (.tail _ (.tail _ h))))))))
      clear kF kN hx' hx_ vd_ vals_ hlog log_ rf_ off6 off7 inF hv hpick hml hs5 o1 o2 o3 hlz
      have hln := hints.length
      replace F6 := known_at (l := (Str.ofString "places", Value.ref D) :: frM first (turn : Nat) tf tt ndv toldv) F6 (allP_cons rfl (allP_cons rfl (allP_cons rfl (allP_cons rfl (allP_cons rfl allP_nil)))))
      simp only [frL, List.cons_append, List.nil_append] at N6
      k_steps
      · rename_i hbr
        have hz := of_decide_eq_true hbr
        refine ws_brk ?_
        dsimp only
        k_steps
        (with_reducible rename Fr h₀ L _ _ => kF)
        (with_reducible rename News h₀ L _ _ => kN)
        refine fin _ _ _ _ _ _ _ _ _ kF (News.sub (l' := frL cl L c0 c1 c2 t0 t1 t2 wc wr wl #[] ++ im) kN ?_) hs hwr (allP_cons rfl (allP_cons rfl (allP_cons rfl (allP_cons rfl allP_nil)))) hg hz
        exact fun q hq => .tail _ (.tail _ hq)
      · unfold Stop
        rename_i hbr
        have hz : 0 < (places row).length := List.length_pos_iff.mpr (of_decide_eq_false hbr)
        (with_reducible rename Fr h₀ L _ _ => kF)
        (with_reducible rename News h₀ L _ _ => kN)
        refine law2_turn B X T kF (News.sub (l' := (D, listOf ys.toArray ys.length) :: (frL cl L c0 c1 c2 t0 t1 t2 wc wr wl #[] ++ im)) kN ?_) hs hw hwr hwl hL hcl hp3 hp2 hints hz (allP_cons rfl (allP_cons rfl (allP_cons rfl (allP_cons rfl (allP_cons rfl allP_nil))))) hg hdp hun
        exact fun q hq => .tail _ hq
  · first | passes_own | with_unfolding_all passes_own
end
end Mine
end
section
open PySem PySem.Spec PySem.Calls PySem.W PyProof.Rows
namespace Mine
section
variable {fa : Addr} {prog : Program} {w : World} {p : Program} {loose : List Str} {mean : ExcName → Option Value} {mg mb : Str → Option Value}
set_option maxHeartbeats 0
theorem often_step {A₀ : Around} {base h₀ : Heap} {outer : List Env} {dp un : Nat} {gd : Option (List Code)} {cn : Str} {cs : Scope} {ca : Addr} {ccd : Value} {ccl : List (Str × Addr)} {L cl lf cf2 lg2 x2 hx2 rf2 vd2 : Nat} {im : Led} {m : Str → Option Value} {olf oc2 o2 wc wr wl : Obj} {c0 c1 c2 : Int} {t0 t1 t2 t3 tm : Tok} {ps2 : Array Value} {sub : Str} {most : Nat} {ndv : Value} {Q E : Value → Shared → Prop} {s : Shared}
    {g1 g2 g3 g4 g5 g6 : Int} {b1 b2 b3 b4 b5 b6 b7 b8 b9 : Tok} {vs2 : Array Value} {qual : Str} {tq : Tok} {pm ctv : Value} {kk2 : Addr} {pz pz2 : Pos} {res : Str × Nat} {H' : HS}
    (B : Below A₀ base outer h₀) (X : (KK w.params).In h₀) (T : Top p loose mean mg mb h₀) (F : Fr h₀ L s.heap m)
    (N : News h₀ L s.heap ((lf, olf) :: (cf2, oc2) :: (lg2, listOf #[] 0) :: (x2, instObj 236 hx2) :: (hx2, dictOf [⟨g1, .str (Str.ofString "values") b1, .ref vd2⟩, ⟨g2, .str (Str.ofString "limit") b2, .int 9999 b7⟩, ⟨g3, .str (Str.ofString "refused") b3, .ref rf2⟩, ⟨g4, .str (Str.ofString "width") b4, .int 64 b8⟩, ⟨g5, .str (Str.ofString "steps") b5, .int 0 b9⟩, ⟨g6, .str (Str.ofString "log") b6, .ref lg2⟩] 6) :: (rf2, listOf #[] 0) :: (vd2, o2) :: (frL cl L c0 c1 c2 t0 t1 t2 wc wr wl ps2 ++ im)))
    (hs : Sep (frL cl L c0 c1 c2 t0 t1 t2 wc wr wl ps2) im) (hL : 448 < L) (hcl : L + 1 + 1 + 1 < cl)
    (hd : o2.IsDictOf (PySem.strKind prog w) []) (lo : (vd2 == sysModules) = false) (q0 : cl < vd2) (q1 : AllLt vd2 im) (q2 : vd2 < rf2) (q3 : rf2 < hx2) (q4 : hx2 < x2) (q5 : x2 < lg2) (q6 : lg2 < cf2) (q6' : AllLt cf2 im) (q7 : cf2 < lf)
    (eo : olf = kla_obj (Str.ofString "<lambda>") qual (lamPar pz) (.Constant (.str (Str.ofString "")) kk2 pz2) lamScope [] pm cf2 ctv) (dl1 : oc2.data = .fields vs2) (dl2 : vs2[1]? = some (.str qual tq))
    (hn : NodeIn im ndv nodeNd) (hro : roften nodeNd false 2000 (fun _ => true) (fun _ => Str.ofString "") most 0 sub H0 = some (res, H'))
    (hk : cs.kind = .function) (hdp : dp + 140 < recursionLimit) (hun : un + 1400 < cLine)
    (ret : ∀ (a : Nat) n t t' h' tk', Fr h₀ L h' m → News h₀ L h' ((a, tup #[.str res.1 t, .int (res.2 : Int) t'] n) :: (frL cl L c0 c1 c2 t0 t1 t2 wc wr wl ps2 ++ im)) → Sep (frL cl L c0 c1 c2 t0 t1 t2 wc wr wl ps2) ((a, tup #[.str res.1 t, .int (res.2 : Int) t'] n) :: im) → Q (.ref a) { s with heap := h', toks := tk' }) :
    wpAny (model prog w) (ktrTop dp un gd cn cs L ca ccd ccl outer) (call (.ref 49) [.ref 397, ndv, .str sub t3, .bool false, .ref x2, .ref lf, .int (most : Int) tm]) Q E s := by
  have hh0 := ((hostNew (h1 := g1) (h2 := g2) (h3 := g3) (h4 := g4) (h5 := g5) (h6 := g6) (t1 := b1) (t2 := b2) (t3 := b3) (t4 := b4) (t5 := b5) (t6 := b6) (u2 := b7) (u4 := b8) (u5 := b9) (im := im) (x := x2) (hx := hx2) (vd := vd2) (lg := lg2) (rf := rf2) hd lo q1 (by omega) (by omega) (by omega) (by omega)).grow (q := cf2) (o := oc2) (im0 := []) ⟨by omega, by omega, by omega, trivial⟩).grow (q := lf) (o := olf) (im0 := []) ⟨by omega, by omega, by omega, trivial⟩
  have hsA := Sep.up (a := lf) (o := olf) (frLt (c0 := c0) (c1 := c1) (c2 := c2) (t0 := t0) (t1 := t1) (t2 := t2) (wc := wc) (wr := wr) (wl := wl) (ps := ps2) hcl hL (by omega)) (Sep.up (a := cf2) (o := oc2) (frLt hcl hL (by omega)) (Sep.up (a := x2) (o := instObj 236 hx2) (frLt hcl hL (by omega)) (Sep.up (a := rf2) (o := listOf #[] 0) (frLt hcl hL (by omega)) hs)))
  have hsH := frSepH (c0 := c0) (c1 := c1) (c2 := c2) (t0 := t0) (t1 := t1) (t2 := t2) (wc := wc) (wr := wr) (wl := wl) (ps := ps2) (hx := hx2) (vd := vd2) (lg := lg2) hcl hL (by omega) (by omega) (by omega)
  refine Does.use (replace_often_does (fr := frL cl L c0 c1 c2 t0 t1 t2 wc wr wl ps2) (im := (lf, olf) :: (cf2, oc2) :: (x2, instObj 236 hx2) :: (rf2, listOf #[] 0) :: im) (anch := false) (most := most) (txt := fun _ => Str.ofString "") (tok := fun _ => true) (hn.mono fun q hq => .tail _ (.tail _ (.tail _ (.tail _ hq)))) hh0 hsA hsH hro (by rw [eo]; exact .head _) (fun H1 _ mu' im' h1 h2 h3 => lam_does h3 h2 (by have e7 := h1 _ (.head _); rw [eo] at e7; exact e7) (h1 _ (.tail _ (.head _))) dl1 dl2)) B F X N T hk ?_ (by omega) (by omega) ?_
  · intro q hq
    simp only [List.mem_cons, List.mem_append, List.not_mem_nil, or_false] at hq ⊢
    rcases hq with (h | h | h) | (h | h | h | h | h) | h | h | h | h | h <;> simp [h]
  intro r9 news9 h9 tk9 F9 N9 P9
  obtain ⟨mu9, im9, hm9, hsub9, hs9, hh9, a9, n9, t9, t9', rfl, ha9⟩ := P9
  refine ret a9 n9 t9 t9' h9 tk9 F9 (News.sub N9 fun q hq => hm9 q (List.mem_append_right _ ?_)) ?_
  · rcases List.mem_cons.mp hq with h | h
    · rw [h]; exact List.mem_append_left _ ha9
    · rcases List.mem_append.mp h with h | h
      · exact List.mem_append_right _ h
      · exact List.mem_append_left _ (hsub9 _ (.tail _ (.tail _ (.tail _ (.tail _ h)))))
  · intro f hf q hq
    rcases List.mem_cons.mp hq with h | h
    · rw [h]; exact hs9 f hf _ ha9
    · exact hs f hf q h
end
end Mine
end
section
open PySem PySem.Spec PySem.Calls PySem.W PyProof.Rows
namespace Mine
set_option maxRecDepth 100000
noncomputable def oneMet (c : Str) (i : Nat) : Str → Bool := fun k => decide (0 < i) && decide (k = c)
section
variable {prog : Program} {w : World} {A : Around} {R : Result → Shared → Prop} {I : Addr} {fp wr : List Addr} {G : Array GenState → Array GenState → Prop} {n : Nat} {P : Nat → Value → Prop} {St : Nat → Shared → Prop}
theorem one_loop (W : WalksS prog w A.in1 I fp wr G n P St) (S : Addr) (hS : S ∉ fp) (c : Str) (hval : ∀ i v, P i v → ∃ t, v = .str c t) : ∀ (k i : Nat) (s : Shared), n - i = k → i ≤ n → St i s →
    s.heap.SetOf (strKind prog w) S (oneMet c i) (min i 1) →
    (∀ s', Moved (S :: wr) G s s' → s'.heap.SetOf (strKind prog w) S (oneMet c n) (min n 1) → R (.ok (.ret .none)) s') →
    codeAny (model prog w) A (.builtin "set.update.loop" ⟨[.ref S, .ref I], []⟩) R s := by
  have hw : S ∉ wr := fun h => hS (W.sub _ h)
  have up : ∀ b ∈ wr, b ∈ S :: wr := fun b hb => .tail _ hb
  have still : ∀ {s s' : Shared} {X : Str → Bool} {m : Nat}, s.heap.SetOf (strKind prog w) S X m → Moved wr G s s' → s'.heap.SetOf (strKind prog w) S X m := by
    intro s s' X m h hm
    obtain ⟨o, es, ep, tb, ho, r⟩ := h
    exact ⟨o, es, ep, tb, hm.heap S _ hw ho, r⟩
  intro k
  induction k with
  | zero =>
    intro i s hk hi hst hset hR
    obtain rfl : i = n := by omega
    refine codeAny_builtin F.entry_set_update_loop ?_
    rw [Around.under_plainId F.plain_set_update_loop _]
    show wpAny _ A.in1 (pyNext (.ref I) >>= _) _ _ s
    refine wpAny_bind (W.done s _ _ hst fun s' hm => ?_)
    show wpAny _ A.in1 (ret Value.none) _ _ s'
    exact wpAny_pure (hR s' (hm.mono up) (still hset hm))
  | succ k ih =>
    intro i s hk hi hst hset hR
    have hlt : i < n := by omega
    refine codeAny_builtin F.entry_set_update_loop ?_
    rw [Around.under_plainId F.plain_set_update_loop _]
    show wpAny _ A.in1 (pyNext (.ref I) >>= _) _ _ s
    refine wpAny_bind (W.item i s _ _ hlt hst fun v s' hP hst' hm => ?_)
    obtain ⟨t, rfl⟩ := hval i v hP
    show wpAny _ A.in1 (holding [Value.str c t] (setAdd S (.str c t)) >>= _) _ _ s'
    refine wpAny_bind (wpAny_holding ?_)
    unfold setAdd
    refine wpAny_holding ?_
    refine wpAny_bind ((strKind prog w).pyHash (k := c) (strKind_is _ _ _ _) ?_)
    refine wpAny_setAddHashed_of (knd := strKind prog w) (s := { s' with toks := s'.toks + 1 }) (strKind_is _ _ _ _) rfl (show s'.heap.SetOf (strKind prog w) S (oneMet c i) (min i 1) from still hset hm) (by unfold scanBound; omega) fun h' hsb hset2 => ?_
    have hset3 : h'.SetOf (strKind prog w) S (oneMet c (i + 1)) (min (i + 1) 1) := by
      refine SetOf_congr hset2 (fun k' => ?_) ?_
      · unfold oneMet
        by_cases e : k' = c <;> simp [e]
      · unfold oneMet
        cases i with
        | zero => rfl
        | succ i => simp
    refine wpAny_pure ⟨plainId_quiet F.plain_set_update_loop _, ih (i + 1) _ (by omega) hlt (W.frame _ s' _ _ hst' (Nat.le_succ _) fun b hb o e => ?_) hset3 fun s'' hm'' hset'' => ?_⟩
    · rw [hsb.2 b (fun h : b = S => hS (by rw [← h]; exact hb))]; exact e
    · refine hR s'' (Moved.trans W.gtrans ((hm.mono up).then_heap (Nat.le_succ _) fun b o hb e => ?_) hm'') hset''
      rw [hsb.2 b (fun h : b = S => hb (by rw [h]; exact .head _))]; exact e
end
section
variable {prog : Program} {w : World} {A : Around} {E : Value → Shared → Prop} {s : Shared}
set_option maxHeartbeats 3200000 in
theorem call_set_one {x c : Str} {tx : Tok} {Q : Value → Shared → Prop} (hh : A.handled = none) (hasc : x.cps.all (· < 128) = true) (hc : ∀ z ∈ x.cps.toList, (⟨#[z]⟩ : Str) = c)
    (h : ∀ (h' : Heap) (tk : Nat), h'.SetOf (strKind prog w) s.heap.objs.size (oneMet c x.cps.size) (min x.cps.size 1) →
      (∀ b o, b < s.heap.objs.size → s.heap.get? b = some o → h'.get? b = some o) → Q (.ref s.heap.objs.size) { s with heap := h', toks := tk }) :
    wpAny (model prog w) A (call (.type "set") [.str x tx]) Q E s := by
  obtain ⟨cc, tl, hmro⟩ := F.called_set.mro
  have hmade := F.called_set.made
  have hsub := F.called_set.sub
  refine wpAny_call (codeAny_of_tree ?_)
  show wpAny _ _ (callAny (.type "set") _) _ _ _
  refine wpAny_pure ⟨Code.quiet_builtin _ (by decide +kernel), codeAny_builtin F.entry_type_call ?_⟩
  rw [Around.under_plain (weight_type_call_type "set" [.str x tx] []) rfl]
  have h1 := F.called_set.notType
  have h2 := F.called_set.canCreate
  have hct := F.typeCall_set_1 (.str x tx)
  repeat (any_goals (first | assumption | wp_step))
  refine codeAny_mono (code_set_new_1 (.str x tx) (E := E) (Q₁ := fun obj s₁ => ∃ led : Bool, obj = .ref s.heap.objs.size ∧ s₁ = { s with heap := s.heap.push { cls := .type "set", dict := none, data := .set #[] 0 (.fresh 0 0 led) } }) fun led => ⟨led, rfl, rfl⟩) fun r s₁ hr => ?_
  cases r with
  | error e => exact hr
  | ok fl =>
    cases fl with
    | ret obj =>
      obtain ⟨led, rfl, rfl⟩ := hr
      have hS : (s.heap.push { cls := .type "set", dict := none, data := .set #[] 0 (.fresh 0 0 led) }).get? s.heap.objs.size = some { cls := .type "set", dict := none, data := .set #[] 0 (.fresh 0 0 led) } := Heap.get?_push_size _ rfl
      have hT : Shared.TypeIs { s with heap := s.heap.push { cls := .type "set", dict := none, data := .set #[] 0 (.fresh 0 0 led) } } (.ref s.heap.objs.size) "set" := ⟨_, hS, rfl⟩
      have hli := F.called_set.init.lookup
      have hbi := F.called_set.init.bind (.ref s.heap.objs.size)
      repeat (any_goals (first | assumption | wp_step))
      refine codeAny_mono (codeAny_call_builtin (R := wants (fun r s₂ => r = .none ∧ ∃ h' tk, s₂ = { s with heap := h', toks := tk } ∧
          h'.SetOf (strKind prog w) s.heap.objs.size (oneMet c x.cps.size) (min x.cps.size 1) ∧
          (∀ b o, b < s.heap.objs.size → s.heap.get? b = some o → h'.get? b = some o)) E) F.called_set.init.plain F.entry_set_init (check_set_init_1 hT ?_)) fun r₂ s₂ hr₂ => ?_
      · have hsls := F.sub_str_set
        have hslf := F.sub_str_frozenset
        have hne : (Value.type "str" == Value.type "dict") = false := by decide
        unfold Builtin.«set.__init__» noKeywords Builtin.Frozenset.updateFrom
        generalize hPI : pyIter = PI
        wp_walk
        subst hPI
        refine wpAny_pyIter_ascii hasc ?_
        refine wpAny_bind (wpAny_runValue ?_)
        have hh3 : A.in1.in1.in1.handled = none := by simp [hh]
        have hSf : s.heap.objs.size ∉ [(s.heap.push { cls := .type "set", dict := none, data := .set #[] 0 (.fresh 0 0 led) }).objs.size] := by
          rw [Heap.size_push, List.mem_singleton]
          exact Nat.ne_of_lt (Nat.lt_succ_self _)
        have hval : ∀ (i : Nat) (v : Value), SignAt x i v → ∃ t, v = .str c t := by
          rintro i v ⟨z, u, hz, rfl⟩
          rw [← Array.getElem?_toList] at hz
          exact ⟨u, by rw [hc z (List.mem_of_getElem? hz)]⟩
        refine one_loop ((Walks.strAscii hh3 _ x tx).toS) s.heap.objs.size hSf c hval (x.cps.size - 0) 0 _ (by omega) (Nat.zero_le _) ⟨_, Heap.get?_push_size _ rfl, rfl, rfl⟩ ?hS0 ?hR
        case hS0 =>
          refine SetOf_congr ((setObjOf_fresh (knd := strKind prog w) led).setOf (Heap.get?_push_of_some _ hS) (by unfold scanBound; omega)) (fun _ => rfl) rfl
        case hR =>
          intro s' hm hS'
          obtain ⟨h', g', d', tk', os'⟩ := s'
          obtain rfl : g' = s.gens := hm.gens
          obtain rfl : d' = s.drawn := hm.drawn
          obtain rfl : os' = s.os := hm.os
          show wpAny _ _ _ _ _ _
          refine wpAny_pure ?_
          show wpAny _ _ (ret Value.none) _ _ _
          refine wpAny_pure ⟨rfl, h', tk', rfl, hS', fun b o hb e => ?_⟩
          refine hm.heap b o ?_ (Heap.get?_push_of_some _ (Heap.get?_push_of_some _ e))
          simp only [List.mem_cons, List.not_mem_nil, or_false, not_or]
          exact ⟨Nat.ne_of_lt hb, by rw [Heap.size_push]; exact Nat.ne_of_lt (Nat.lt_succ_of_lt hb)⟩
      · cases r₂ with
        | error e => exact hr₂
        | ok fl₂ =>
          cases fl₂ with
          | ret r =>
            obtain ⟨rfl, h', tk, rfl, hS', hk'⟩ := hr₂
            repeat (any_goals (first | assumption | wp_step))
            exact h _ _ hS' hk'
          | _ => exact hr₂.elim
    | _ => exact hr.elim
end
section
variable {prog : Program} {w : World} {A : Around} {E : Value → Shared → Prop} {s : Shared} {h₀ : Heap} {L : Addr} {m : Str → Option Value} {news : Led}
theorem set_one {x c : Str} {tx : Tok} {Q : Value → Shared → Prop} (F : Fr h₀ L s.heap m) (N : News h₀ L s.heap news) (hh : A.handled = none) (hasc : x.cps.all (· < 128) = true) (hc : ∀ z ∈ x.cps.toList, (⟨#[z]⟩ : Str) = c)
    (h : ∀ (d : Addr) h' (tk : Nat) o (X : Str → Bool) (n : Nat), n ≤ 1 → Fr h₀ L h' m → News h₀ L h' ((d, o) :: news) → (∀ p ∈ news, p.1 < d) → o.SetObjOf (strKind prog w) X n → Q (.ref d) { s with heap := h', toks := tk }) :
    wpAny (model prog w) A (call (.type "set") [.str x tx]) Q E s := by
  refine call_set_one hh hasc hc fun h' tk hS hk => ?_
  obtain ⟨o, ho, hso⟩ := hS.objOf
  have hLlt : L < s.heap.objs.size := F.ns.lt
  refine h _ h' tk o _ _ (Nat.min_le_right _ _) ⟨F.ns.at' fun o' e => hk L o' hLlt e, fun b o' e => hk b o' (Heap.lt_size (F.keep b o' e)) (F.keep b o' e), F.above⟩ (fun p hp => ?_) (fun p hp => Heap.lt_size (N p hp).1) hso
  rcases List.mem_cons.mp hp with rfl | hp
  · exact ⟨ho, Nat.ne_of_gt hLlt, next_is_new F⟩
  · exact ⟨hk _ _ (Heap.lt_size (N p hp).1) (N p hp).1, (N p hp).2⟩
end
end Mine
end
section
open PySem PySem.Spec PySem.Calls PySem.W PyProof.Rows
namespace Mine
local macro_rules | `(tactic| k_room) => `(tactic| first | assumption | exact And.left (by assumption) | exact And.left (And.right (by assumption)) | exact And.left (And.right (And.right (by assumption))) | exact And.left (And.right (And.right (And.right (by assumption)))) | exact And.left (And.right (And.right (And.right (And.right (by assumption))))) | exact And.left (And.right (And.right (And.right (And.right (And.right (by assumption)))))) | exact And.left (And.right (And.right (And.right (And.right (And.right (And.right (by assumption))))))) | exact And.left (And.right (And.right (And.right (And.right (And.right (And.right (And.right (by assumption)))))))) | exact And.left (And.right (And.right (And.right (And.right (And.right (And.right (And.right (And.right (by assumption))))))))) | exact And.left (And.right (And.right (And.right (And.right (And.right (And.right (And.right (And.right (And.right (by assumption)))))))))) | exact And.left (And.right (And.right (And.right (And.right (And.right (And.right (And.right (And.right (And.right (And.right (by assumption))))))))))) | exact And.left (And.right (And.right (And.right (And.right (And.right (And.right (And.right (And.right (And.right (And.right (And.right (by assumption)))))))))))) | exact And.left (And.right (And.right (And.right (And.right (And.right (And.right (And.right (And.right (And.right (And.right (And.right (And.right (by assumption))))))))))))) | exact And.left (And.right (And.right (And.right (And.right (And.right (And.right (And.right (And.right (And.right (And.right (And.right (And.right (And.right (by assumption)))))))))))))) | exact And.left (And.right (And.right (And.right (And.right (And.right (And.right (And.right (And.right (And.right (And.right (And.right (And.right (And.right (And.right (by assumption))))))))))))))) | exact And.left (And.right (And.right (And.right (And.right (And.right (And.right (And.right (And.right (And.right (And.right (And.right (And.right (And.right (And.right (And.right (by assumption)))))))))))))))) | exact And.left (And.right (And.right (And.right (And.right (And.right (And.right (And.right (And.right (And.right (And.right (And.right (And.right (And.right (And.right (And.right (And.right (by assumption))))))))))))))))) | omega)
local macro_rules | `(tactic| walk_at "subscriptTail Name Constant ref int") => `(tactic| (k_here; k_dflt ((first | ((with_reducible show wpAny _ _ (subscriptTail _ _ (Value.ref _) (Value.int 0 _)) _ _ _); refine' lst_i0 ?k1 ?_ ?k7 ?k8) | ((with_reducible show wpAny _ _ (subscriptTail _ _ (Value.ref _) (Value.int 1 _)) _ _ _); refine' lst_i1 ?k1 ?_ ?k7 ?k8) | ((with_reducible show wpAny _ _ (subscriptTail _ _ (Value.ref _) (Value.int 2 _)) _ _ _); refine' lst_i2 ?k1 ?_ ?k7 ?k8)); (case k1 => exact News.isList (by k_asm) (by k_mem)); (case k7 => with_unfolding_all rfl); (case k8 => intro _; with_unfolding_all rfl))))
section
variable {fa : Addr} {prog : Program} {w : World} {p : Program} {loose : List Str} {mean : ExcName → Option Value} {mg mb : Str → Option Value}
set_option maxRecDepth 100000
set_option maxHeartbeats 0
theorem law2_front {tl : List Stmt} {A₀ : Around} {base h₀ h₁ : Heap} {outer : List Env} {L cl turn : Nat} {im : Led} {m : Str → Option Value} {wc wr wl : Obj}  {c0 c1 c2 : Int} {t0 t1 t2 tf tr tt : Tok} {ps : Array Value} {first row : Str} {ndv toldv : Value} {dp un tk : Nat} {gd : Option (List Code)} {s : Shared} {Q : Flow → Shared → Prop} {E : Value → Shared → Prop}
    (B : Below A₀ base outer h₀) (X : (KK w.params).In h₀) (T : Top p loose mean mg mb h₀) (F : Fr h₀ L h₁ m)
    (N : News h₀ L h₁ (frL cl L c0 c1 c2 t0 t1 t2 wc wr wl ps ++ im)) (hs : Sep (frL cl L c0 c1 c2 t0 t1 t2 wc wr wl ps) (im)) (hw : wc.data = .cell (some (.ref cl))) (hwr : wr.data = .cell (some (.str row tr))) (hL : 448 < L) (hcl : L + 1 + 1 + 1 < cl) (C : CodeHd h₀ 450 448)
    (hn : NodeIn (im) ndv nodeNd) (p2 : 0 ≤ c2) (hm : ∀ p ∈ frM first (turn : Nat) tf tt ndv toldv, m p.1 = some p.2) (hfl : first.length ≤ 7) {mm : Nat} (hmm : c2.fmod 3 = (mm : Int)) (hps : ps = #[])
    (hdp : dp + 250 < recursionLimit) (hun : un + 2500 < cLine)
    (rest : ∀ (r nr : Nat) t t' tM cX ps' h' tk' m', ps' = #[rawInt 329, rawInt 84, .ref cX] → Fr h₀ L h' m' → News h₀ L h' (frL cl L c0 c1 c2 t0 t1 t2 wc wr wl ps' ++ ((r, tup #[.str (red 9 first).1 t, .int ((red 9 first).2 : Int) t'] nr) :: im)) → Sep (frL cl L c0 c1 c2 t0 t1 t2 wc wr wl ps') ((r, tup #[.str (red 9 first).1 t, .int ((red 9 first).2 : Int) t'] nr) :: im) →
      (∀ p ∈ (Str.ofString "front", Value.ref r) :: (Str.ofString "most", Value.int (mm : Int) tM) :: frM first (turn : Nat) tf tt ndv toldv, m' p.1 = some p.2) → wpAny (model prog w) ((lawTop dp un gd outer).deeper (lawEnv fa L)) (execs tl (lawEnv fa L)) Q E { s with heap := h', toks := tk' }) :
    wpAny (model prog w) ((lawTop dp un gd outer).deeper (lawEnv fa L)) (execs (hFront ++ tl) (lawEnv fa L)) Q E { s with heap := h₁, toks := tk } := by
  subst hps
  have o448 : ∀ q ∈ im, q.1 ≠ 448 := hs _ (.tail _ (.tail _ (.tail _ (.tail _ (.head _)))))
  rw [knownL _ hm] at F
  unfold hFront
  unfold lawEnv lawScope lit at *
  simp only [List.cons_append, List.nil_append]
  simp only [frL, List.cons_append, List.nil_append] at N
  k_steps
  unfold Stop
  rename_i vd _ o lo hd _ _ _ q1 rf _ q2 _ _ _ x hx lg g1 g2 g3 g4 g5 g6 b1 b2 b3 b4 b5 b6 b7 b8 b9 e1 e2 e3 _ lf cf oc vs tq ctv _ _ kF kN dl1 dl2 ll1 ll2
  obtain ⟨H', hro⟩ := roften_ok (row := first) hfl 9 (by omega)
  obtain ⟨olf, eo, kN⟩ := News.headO kN
  try simp only [AllLt] at q1 ll1
  refine often_step B X T kF kN (frSep hs) hL hcl hd lo (by k_room) q1.2.2.2.2.2 (by k_room) (by k_room) (by k_room) (by k_room) (by k_room) ll1.2.2.2.2.2.2.2.2.2.2 (by k_room) eo dl1 dl2 hn hro rfl (by ktr_room) (by ktr_units) ?_
  intro r nr t t' h9 tk9 F9 N9 S9
  clear kF kN
  simp only [frL, List.cons_append, List.nil_append] at N9
  k_steps
  (with_reducible rename Fr h₀ L _ _ => kF2)
  (with_reducible rename News h₀ L _ _ => kN2)
  refine' rest r nr t t' _ cf (#[rawInt 329, rawInt 84, .ref cf]) _ _ _ ?hps kF2 (News.sub kN2 ?hsub) (frSep S9) (allP_cons rfl (allP_cons ?hmo (allP_cons rfl (allP_cons rfl (allP_cons rfl (allP_cons rfl allP_nil))))))
  case hps => rfl
  case hsub =>
    intro q hq
    simp only [frL, List.cons_append, List.nil_append, List.mem_cons] at hq ⊢
    rcases hq with h | h | h | h | h | h | h <;> simp [h]
  case hmo =>
    show some (Value.int (Int.fmod c2 3) _) = some (Value.int (mm : Int) _)
    rw [hmm]
end
end Mine
end
section
open PySem PySem.Spec PySem.Calls PySem.W PyProof.Rows
namespace Mine
local macro_rules | `(tactic| k_room) => `(tactic| first | assumption | exact And.left (by assumption) | exact And.left (And.right (by assumption)) | exact And.left (And.right (And.right (by assumption))) | exact And.left (And.right (And.right (And.right (by assumption)))) | exact And.left (And.right (And.right (And.right (And.right (by assumption))))) | exact And.left (And.right (And.right (And.right (And.right (And.right (by assumption)))))) | exact And.left (And.right (And.right (And.right (And.right (And.right (And.right (by assumption))))))) | exact And.left (And.right (And.right (And.right (And.right (And.right (And.right (And.right (by assumption)))))))) | exact And.left (And.right (And.right (And.right (And.right (And.right (And.right (And.right (And.right (by assumption))))))))) | exact And.left (And.right (And.right (And.right (And.right (And.right (And.right (And.right (And.right (And.right (by assumption)))))))))) | exact And.left (And.right (And.right (And.right (And.right (And.right (And.right (And.right (And.right (And.right (And.right (by assumption))))))))))) | exact And.left (And.right (And.right (And.right (And.right (And.right (And.right (And.right (And.right (And.right (And.right (And.right (by assumption)))))))))))) | exact And.left (And.right (And.right (And.right (And.right (And.right (And.right (And.right (And.right (And.right (And.right (And.right (And.right (by assumption))))))))))))) | exact And.left (And.right (And.right (And.right (And.right (And.right (And.right (And.right (And.right (And.right (And.right (And.right (And.right (And.right (by assumption)))))))))))))) | exact And.left (And.right (And.right (And.right (And.right (And.right (And.right (And.right (And.right (And.right (And.right (And.right (And.right (And.right (And.right (by assumption))))))))))))))) | exact And.left (And.right (And.right (And.right (And.right (And.right (And.right (And.right (And.right (And.right (And.right (And.right (And.right (And.right (And.right (And.right (by assumption)))))))))))))))) | exact And.left (And.right (And.right (And.right (And.right (And.right (And.right (And.right (And.right (And.right (And.right (And.right (And.right (And.right (And.right (And.right (And.right (by assumption))))))))))))))))) | omega)
section
variable {fa : Addr} {prog : Program} {w : World} {p : Program} {loose : List Str} {mean : ExcName → Option Value} {mg mb : Str → Option Value}
set_option maxRecDepth 100000
set_option maxHeartbeats 0
theorem law2_begun {tl : List Stmt} {A₀ : Around} {base h₀ h₁ : Heap} {outer : List Env} {L cl turn a na mm : Nat} {im : Led} {m : Str → Option Value} {wc wr wl : Obj} {cA : Addr} {c0 c1 c2 : Int} {t0 t1 t2 tf tr tt ta ta' tM : Tok} {ps : Array Value} {first row : Str} {ndv toldv : Value} {dp un tk : Nat} {gd : Option (List Code)} {s : Shared} {Q : Flow → Shared → Prop} {E : Value → Shared → Prop}
    (B : Below A₀ base outer h₀) (X : (KK w.params).In h₀) (T : Top p loose mean mg mb h₀) (F : Fr h₀ L h₁ m)
    (N : News h₀ L h₁ (frL cl L c0 c1 c2 t0 t1 t2 wc wr wl ps ++ (a, tup #[.str (red 9 first).1 ta, .int ((red 9 first).2 : Int) ta'] na) :: im)) (hs : Sep (frL cl L c0 c1 c2 t0 t1 t2 wc wr wl ps) ((a, tup #[.str (red 9 first).1 ta, .int ((red 9 first).2 : Int) ta'] na) :: im)) (hw : wc.data = .cell (some (.ref cl))) (hwr : wr.data = .cell (some (.str row tr))) (hL : 448 < L) (hcl : L + 1 + 1 + 1 < cl) (C : CodeHd h₀ 450 448)
    (hn : NodeIn ((a, tup #[.str (red 9 first).1 ta, .int ((red 9 first).2 : Int) ta'] na) :: im) ndv nodeNd) (p2 : 0 ≤ c2) (hm : ∀ p ∈ (Str.ofString "front", Value.ref a) :: (Str.ofString "most", Value.int (mm : Int) tM) :: frM first (turn : Nat) tf tt ndv toldv, m p.1 = some p.2) (hfl : first.length ≤ 7) (hmo : mm ≤ 20) (hps : ps = #[rawInt 329, rawInt 84, .ref cA])
    (hdp : dp + 250 < recursionLimit) (hun : un + 2500 < cLine)
    (rest : ∀ (r nr : Nat) t t'  cX ps' h' tk' m', ps' = #[rawInt 329, rawInt 84, .ref cA, rawInt 330, rawInt 84, .ref cX] → Fr h₀ L h' m' → News h₀ L h' (frL cl L c0 c1 c2 t0 t1 t2 wc wr wl ps' ++ ((r, tup #[.str (red mm first).1 t, .int ((red mm first).2 : Int) t'] nr) :: (a, tup #[.str (red 9 first).1 ta, .int ((red 9 first).2 : Int) ta'] na) :: im)) → Sep (frL cl L c0 c1 c2 t0 t1 t2 wc wr wl ps') ((r, tup #[.str (red mm first).1 t, .int ((red mm first).2 : Int) t'] nr) :: (a, tup #[.str (red 9 first).1 ta, .int ((red 9 first).2 : Int) ta'] na) :: im) →
      (∀ p ∈ (Str.ofString "begun", Value.ref r) :: (Str.ofString "front", Value.ref a) :: (Str.ofString "most", Value.int (mm : Int) tM) :: frM first (turn : Nat) tf tt ndv toldv, m' p.1 = some p.2) → wpAny (model prog w) ((lawTop dp un gd outer).deeper (lawEnv fa L)) (execs tl (lawEnv fa L)) Q E { s with heap := h', toks := tk' }) :
    wpAny (model prog w) ((lawTop dp un gd outer).deeper (lawEnv fa L)) (execs (hBegun ++ tl) (lawEnv fa L)) Q E { s with heap := h₁, toks := tk } := by
  subst hps
  have o448 : ∀ q ∈ (a, tup #[.str (red 9 first).1 ta, .int ((red 9 first).2 : Int) ta'] na) :: im, q.1 ≠ 448 := hs _ (.tail _ (.tail _ (.tail _ (.tail _ (.head _)))))
  rw [knownL _ hm] at F
  unfold hBegun
  unfold lawEnv lawScope lit at *
  simp only [List.cons_append, List.nil_append]
  simp only [frL, List.cons_append, List.nil_append] at N
  k_steps
  unfold Stop
  rename_i vd _ o lo hd _ _ _ q1 rf _ q2 _ _ _ x hx lg g1 g2 g3 g4 g5 g6 b1 b2 b3 b4 b5 b6 b7 b8 b9 e1 e2 e3 _ lf cf oc vs tq ctv _ _ kF kN dl1 dl2 ll1 ll2
  obtain ⟨H', hro⟩ := roften_ok (row := first) hfl mm (by omega)
  obtain ⟨olf, eo, kN⟩ := News.headO kN
  try simp only [AllLt] at q1 ll1
  refine often_step B X T kF kN (frSep hs) hL hcl hd lo (by k_room) ⟨q1.2.2.2.2.2.1, q1.2.2.2.2.2.2⟩ (by k_room) (by k_room) (by k_room) (by k_room) (by k_room) ⟨ll1.2.2.2.2.2.2.2.2.2.2.1, ll1.2.2.2.2.2.2.2.2.2.2.2⟩ (by k_room) eo dl1 dl2 hn hro rfl (by ktr_room) (by ktr_units) ?_
  intro r nr t t' h9 tk9 F9 N9 S9
  clear kF kN
  simp only [frL, List.cons_append, List.nil_append] at N9
  k_steps
  (with_reducible rename Fr h₀ L _ _ => kF2)
  (with_reducible rename News h₀ L _ _ => kN2)
  refine' rest r nr t t'  cf (#[rawInt 329, rawInt 84, .ref cA, rawInt 330, rawInt 84, .ref cf]) _ _ _ ?hps kF2 (News.sub kN2 ?hsub) (frSep S9) (allP_cons rfl (allP_cons rfl (allP_cons rfl (allP_cons rfl (allP_cons rfl (allP_cons rfl (allP_cons rfl allP_nil)))))))
  case hps => rfl
  case hsub =>
    intro q hq
    simp only [frL, List.cons_append, List.nil_append, List.mem_cons] at hq ⊢
    rcases hq with h | h | h | h | h | h | h | h <;> simp [h]
end
end Mine
end
section
open PySem PySem.Spec PySem.Calls PySem.W PyProof.Rows
namespace Mine
local macro_rules | `(tactic| walk_at "no such key") => `(tactic| fail)
local macro_rules | `(tactic| k_room) => `(tactic| first | assumption | exact And.left (by assumption) | exact And.left (And.right (by assumption)) | exact And.left (And.right (And.right (by assumption))) | exact And.left (And.right (And.right (And.right (by assumption)))) | exact And.left (And.right (And.right (And.right (And.right (by assumption))))) | exact And.left (And.right (And.right (And.right (And.right (And.right (by assumption)))))) | exact And.left (And.right (And.right (And.right (And.right (And.right (And.right (by assumption))))))) | exact And.left (And.right (And.right (And.right (And.right (And.right (And.right (And.right (by assumption)))))))) | exact And.left (And.right (And.right (And.right (And.right (And.right (And.right (And.right (And.right (by assumption))))))))) | exact And.left (And.right (And.right (And.right (And.right (And.right (And.right (And.right (And.right (And.right (by assumption)))))))))) | exact And.left (And.right (And.right (And.right (And.right (And.right (And.right (And.right (And.right (And.right (And.right (by assumption))))))))))) | exact And.left (And.right (And.right (And.right (And.right (And.right (And.right (And.right (And.right (And.right (And.right (And.right (by assumption)))))))))))) | exact And.left (And.right (And.right (And.right (And.right (And.right (And.right (And.right (And.right (And.right (And.right (And.right (And.right (by assumption))))))))))))) | exact And.left (And.right (And.right (And.right (And.right (And.right (And.right (And.right (And.right (And.right (And.right (And.right (And.right (And.right (by assumption)))))))))))))) | exact And.left (And.right (And.right (And.right (And.right (And.right (And.right (And.right (And.right (And.right (And.right (And.right (And.right (And.right (And.right (by assumption))))))))))))))) | exact And.left (And.right (And.right (And.right (And.right (And.right (And.right (And.right (And.right (And.right (And.right (And.right (And.right (And.right (And.right (And.right (by assumption)))))))))))))))) | exact And.left (And.right (And.right (And.right (And.right (And.right (And.right (And.right (And.right (And.right (And.right (And.right (And.right (And.right (And.right (And.right (And.right (by assumption))))))))))))))))) | omega)
section
variable {fa : Addr} {prog : Program} {w : World} {p : Program} {loose : List Str} {mean : ExcName → Option Value} {mg mb : Str → Option Value}
set_option maxRecDepth 100000
set_option maxHeartbeats 0
theorem law2_rest {tl : List Stmt} {A₀ : Around} {base h₀ h₁ : Heap} {outer : List Env} {L cl turn a na b nb mm : Nat} {im : Led} {m : Str → Option Value} {wc wr wl : Obj} {cA cB : Addr} {c0 c1 c2 : Int} {t0 t1 t2 tf tr tt ta ta' tb tb' tM : Tok} {ps : Array Value} {first row : Str} {ndv toldv : Value} {dp un tk : Nat} {gd : Option (List Code)} {s : Shared} {Q : Flow → Shared → Prop} {E : Value → Shared → Prop}
    (B : Below A₀ base outer h₀) (X : (KK w.params).In h₀) (T : Top p loose mean mg mb h₀) (F : Fr h₀ L h₁ m)
    (N : News h₀ L h₁ (frL cl L c0 c1 c2 t0 t1 t2 wc wr wl ps ++ (b, tup #[.str (red mm first).1 tb, .int ((red mm first).2 : Int) tb'] nb) :: (a, tup #[.str (red 9 first).1 ta, .int ((red 9 first).2 : Int) ta'] na) :: im)) (hs : Sep (frL cl L c0 c1 c2 t0 t1 t2 wc wr wl ps) ((b, tup #[.str (red mm first).1 tb, .int ((red mm first).2 : Int) tb'] nb) :: (a, tup #[.str (red 9 first).1 ta, .int ((red 9 first).2 : Int) ta'] na) :: im)) (hw : wc.data = .cell (some (.ref cl))) (hwr : wr.data = .cell (some (.str row tr))) (hL : 448 < L) (hcl : L + 1 + 1 + 1 < cl) (C : CodeHd h₀ 450 448)
    (hn : NodeIn ((b, tup #[.str (red mm first).1 tb, .int ((red mm first).2 : Int) tb'] nb) :: (a, tup #[.str (red 9 first).1 ta, .int ((red 9 first).2 : Int) ta'] na) :: im) ndv nodeNd) (p2 : 0 ≤ c2) (hm : ∀ p ∈ (Str.ofString "begun", Value.ref b) :: (Str.ofString "front", Value.ref a) :: (Str.ofString "most", Value.int (mm : Int) tM) :: frM first (turn : Nat) tf tt ndv toldv, m p.1 = some p.2) (hfl : first.length ≤ 7) (hbl : (red mm first).1.length ≤ 7) (hps : ps = #[rawInt 329, rawInt 84, .ref cA, rawInt 330, rawInt 84, .ref cB])
    (hdp : dp + 250 < recursionLimit) (hun : un + 2500 < cLine)
    (rest : ∀ (r nr : Nat) t t'  cX ps' h' tk' m', ps' = #[rawInt 329, rawInt 84, .ref cA, rawInt 330, rawInt 84, .ref cB, rawInt 331, rawInt 86, .ref cX] → Fr h₀ L h' m' → News h₀ L h' (frL cl L c0 c1 c2 t0 t1 t2 wc wr wl ps' ++ ((r, tup #[.str (red 9 (red mm first).1).1 t, .int ((red 9 (red mm first).1).2 : Int) t'] nr) :: (b, tup #[.str (red mm first).1 tb, .int ((red mm first).2 : Int) tb'] nb) :: (a, tup #[.str (red 9 first).1 ta, .int ((red 9 first).2 : Int) ta'] na) :: im)) → Sep (frL cl L c0 c1 c2 t0 t1 t2 wc wr wl ps') ((r, tup #[.str (red 9 (red mm first).1).1 t, .int ((red 9 (red mm first).1).2 : Int) t'] nr) :: (b, tup #[.str (red mm first).1 tb, .int ((red mm first).2 : Int) tb'] nb) :: (a, tup #[.str (red 9 first).1 ta, .int ((red 9 first).2 : Int) ta'] na) :: im) →
      (∀ p ∈ (Str.ofString "rest", Value.ref r) :: (Str.ofString "begun", Value.ref b) :: (Str.ofString "front", Value.ref a) :: (Str.ofString "most", Value.int (mm : Int) tM) :: frM first (turn : Nat) tf tt ndv toldv, m' p.1 = some p.2) → wpAny (model prog w) ((lawTop dp un gd outer).deeper (lawEnv fa L)) (execs tl (lawEnv fa L)) Q E { s with heap := h', toks := tk' }) :
    wpAny (model prog w) ((lawTop dp un gd outer).deeper (lawEnv fa L)) (execs (hRest ++ tl) (lawEnv fa L)) Q E { s with heap := h₁, toks := tk } := by
  subst hps
  have o448 : ∀ q ∈ (b, tup #[.str (red mm first).1 tb, .int ((red mm first).2 : Int) tb'] nb) :: (a, tup #[.str (red 9 first).1 ta, .int ((red 9 first).2 : Int) ta'] na) :: im, q.1 ≠ 448 := hs _ (.tail _ (.tail _ (.tail _ (.tail _ (.head _)))))
  rw [knownL _ hm] at F
  unfold hRest
  unfold lawEnv lawScope lit at *
  simp only [List.cons_append, List.nil_append]
  simp only [frL, List.cons_append, List.nil_append] at N
  k_steps
  unfold Stop
  rename_i vd _ o lo hd _ _ _ q1 rf _ q2 _ _ _ x hx lg g1 g2 g3 g4 g5 g6 b1 b2 b3 b4 b5 b6 b7 b8 b9 e1 e2 e3 _ lf cf oc vs tq ctv _ _ kF kN dl1 dl2 ll1 ll2
  obtain ⟨H', hro⟩ := roften_ok (row := (red mm first).1) hbl 9 (by omega)
  obtain ⟨olf, eo, kN⟩ := News.headO kN
  try simp only [AllLt] at q1 ll1
  refine often_step B X T kF kN (frSep hs) hL hcl hd lo (by k_room) ⟨q1.2.2.2.2.2.1, q1.2.2.2.2.2.2.1, q1.2.2.2.2.2.2.2⟩ (by k_room) (by k_room) (by k_room) (by k_room) (by k_room) ⟨ll1.2.2.2.2.2.2.2.2.2.2.1, ll1.2.2.2.2.2.2.2.2.2.2.2.1, ll1.2.2.2.2.2.2.2.2.2.2.2.2⟩ (by k_room) eo dl1 dl2 hn hro rfl (by ktr_room) (by ktr_units) ?_
  intro r nr t t' h9 tk9 F9 N9 S9
  clear kF kN
  simp only [frL, List.cons_append, List.nil_append] at N9
  k_steps
  (with_reducible rename Fr h₀ L _ _ => kF2)
  (with_reducible rename News h₀ L _ _ => kN2)
  refine' rest r nr t t'  cf (#[rawInt 329, rawInt 84, .ref cA, rawInt 330, rawInt 84, .ref cB, rawInt 331, rawInt 86, .ref cf]) _ _ _ ?hps kF2 (News.sub kN2 ?hsub) (frSep S9) (allP_cons rfl (allP_cons rfl (allP_cons rfl (allP_cons rfl (allP_cons rfl (allP_cons rfl (allP_cons rfl (allP_cons rfl allP_nil))))))))
  case hps => rfl
  case hsub =>
    intro q hq
    simp only [frL, List.cons_append, List.nil_append, List.mem_cons] at hq ⊢
    rcases hq with h | h | h | h | h | h | h | h | h <;> simp [h]
end
end Mine
end
section
open PySem PySem.Spec PySem.Calls PySem.W PyProof.Rows
namespace Mine
local macro_rules | `(tactic| walk_at "subscriptTail Name Constant ref int") => `(tactic| (k_here; k_dflt ((first | ((with_reducible show wpAny _ _ (subscriptTail _ _ (Value.ref _) (Value.int 0 _)) _ _ _); refine' tup_i0 ?k1 ?_ ?k7 ?k8) | ((with_reducible show wpAny _ _ (subscriptTail _ _ (Value.ref _) (Value.int 1 _)) _ _ _); refine' tup_i1 ?k1 ?_ ?k7 ?k8) | ((with_reducible show wpAny _ _ (subscriptTail _ _ (Value.ref _) (Value.int 2 _)) _ _ _); refine' tup_i2 ?k1 ?_ ?k7 ?k8)); (case k1 => exact News.isTup (by k_asm) (by k_mem)); (case k7 => with_unfolding_all rfl); (case k8 => intro _; with_unfolding_all rfl))))
local macro_rules | `(tactic| walk_at "exec For") => `(tactic| (k_here; (with_reducible show wpAny _ _ (exec (Stmt.For (PySem.Expr.Tuple _ _ _) _ _ _ _) _) _ _ _); (with_unfolding_all refine' For_turns ?F ?_; (case F => k_asm))))
local macro_rules | `(tactic| walk_at "pyIter ref") => `(tactic| (k_here; refine stop_intro ?_))
local macro_rules | `(tactic| walk_at "call type:set cons nil") => `(tactic| (k_here; (with_reducible show wpAny _ _ (call (Value.type "set") [Value.str _ _]) _ _ _); k_dflt (refine' set_one ?F ?N ?h ?a ?c ?_; (case F => k_asm); (case N => k_asm); (case h => rfl); (case a => assumption); (case c => assumption)); intro d' h' tk' o' X' n' hn' F' N' l1 hso'; (try k_lt l1)))
local macro_rules | `(tactic| walk_at "call builtin:len") => `(tactic| (k_here; (with_reducible show wpAny _ _ (call (Value.builtin "len") [Value.ref _]) _ _ _); k_dflt (refine' set_len ?N ?m ?s ?f ?_; (case N => k_asm); (case m => k_mem); (case s => assumption); (case f => assumption))))
noncomputable def FalseOnly (s : Shared) (b : Bool) (s' : Shared) : Prop := b = false ∧ ∃ tk, s' = { s with toks := tk }
theorem false_only {s : Shared} {tk : Tok} : FalseOnly s false { s with toks := tk } := ⟨rfl, _, rfl⟩
theorem cut_false {prog : Program} {w : World} {A : Around} {E : Value → Shared → Prop} {s : Shared} {t : Sem Bool} {Q : Bool → Shared → Prop} (h : wpAny (model prog w) A t (FalseOnly s) E s) (h2 : ∀ tk, Q false { s with toks := tk }) : wpAny (model prog w) A t Q E s :=
  wpAny_mono h (fun b s' hb => by obtain ⟨e, tk, e'⟩ := hb; subst e; subst e'; exact h2 tk) fun _ _ e => e
local macro_rules | `(tactic| walk_at "isTrue BoolOp") => `(tactic| (k_here; (with_reducible show wpAny _ _ (isTrue (PySem.Expr.BoolOp PySem.BoolOp.And _ _) _ _) _ _ _); (fail_if_success (with_reducible show wpAny _ _ _ (FalseOnly _) _ _)); refine cut_false ?_ fun tk' => ?_))
noncomputable def J2 (news0 : Led) (first : Str) (tf : Tok) (_ : Nat) (m : Str → Option Value) (news : Led) : Prop := news = news0 ∧ m (Str.ofString "first") = some (.str first tf)
section
variable {fa : Addr} {prog : Program} {w : World} {p : Program} {loose : List Str} {mean : ExcName → Option Value} {mg mb : Str → Option Value}
set_option maxRecDepth 100000
set_option maxHeartbeats 0
theorem law2_fin {A₀ : Around} {base h₀ h₁ : Heap} {outer : List Env} {L cl turn a na b nb r nr mm i j k : Nat} {im : Led} {m : Str → Option Value} {wc wr wl : Obj} {c0 c1 c2 : Int} {t0 t1 t2 tf tr tt ta ta' tb tb' tc tc' tM : Tok} {ps : Array Value} {first row f y : Str} {ndv toldv : Value} {dp un tk : Nat} {gd : Option (List Code)} {s : Shared} {Q : Flow → Shared → Prop} {E : Value → Shared → Prop}
    (B : Below A₀ base outer h₀) (X : (KK w.params).In h₀) (T : Top p loose mean mg mb h₀) (F : Fr h₀ L h₁ m)
    (N : News h₀ L h₁ (frL cl L c0 c1 c2 t0 t1 t2 wc wr wl ps ++ ((r, tup #[.str f tc, .int (i : Int) tc'] nr) :: (b, tup #[.str y tb, .int (j : Int) tb'] nb) :: (a, tup #[.str f ta, .int (k : Int) ta'] na) :: im))) (hw : wc.data = .cell (some (.ref cl))) (hwr : wr.data = .cell (some (.str row tr))) (hL : 448 < L) (hcl : L + 1 + 1 + 1 < cl) (C : CodeHd h₀ 450 448)
    (hm : ∀ p ∈ (Str.ofString "rest", Value.ref r) :: (Str.ofString "begun", Value.ref b) :: (Str.ofString "front", Value.ref a) :: (Str.ofString "most", Value.int (mm : Int) tM) :: frM first (turn : Nat) tf tt ndv toldv, m p.1 = some p.2)
    (hij : j + i = k) (hj : j = min mm k) (hfl : first.length ≤ 7) (hg : Inv first row turn) (hg2 : Inv first f k) (hz : places row = []) (hz2 : places f = [])
    (hdp : dp + 250 < recursionLimit) (hun : un + 2500 < cLine)
    (hEE : PassesOwn (model prog w) ((lawTop dp un gd outer).deeper (lawEnv fa L)) (lawEnv fa L) E)
    (ret : ∀ h' tk' m' ps' news', Fr h₀ L h' m' → News h₀ L h' (((448 : Nat), tabObj ps') :: news') → Q (.ret (.bool true)) { s with heap := h', toks := tk' }) :
    wpAny (model prog w) ((lawTop dp un gd outer).deeper (lawEnv fa L)) (execs lawBody10 (lawEnv fa L)) Q E { s with heap := h₁, toks := tk } := by
  rw [knownL _ hm] at F
  have hl1 := hg.len
  have hl2 := hg2.len
  have hs1 := hg.sum
  have hs2 := hg2.sum
  unfold lawBody10
  unfold lawEnv lawScope lit at *
  simp only [frL, List.cons_append, List.nil_append] at N
  k_steps
  · rename_i hbad
    simp at hbad
  · rename_i hbad
    exact absurd hbad (by omega)
  · rename_i hbad
    exact absurd hbad (by rw [hj]; split <;> omega)
  unfold Stop
  (with_reducible rename Fr h₀ L _ _ => kF)
  (with_reducible rename News h₀ L _ _ => kN)
  rename_i D _ lD l _ lL
  refine list_turns (J2 [(D, tup #[.str row tr, .int (turn : Int) tt] 0), (a, tup #[.str f ta, .int (k : Int) ta'] na), (448, tabObj ps)] first tf) rfl kF kN (.head _) (news₀ := [(D, tup #[.str row tr, .int (turn : Int) tt] 0), (a, tup #[.str f ta, .int (k : Int) ta'] na), (448, tabObj ps)]) ?_ ⟨rfl, rfl⟩ ?_ ?_
  · intro q hq
    simp only [List.mem_cons, List.not_mem_nil, or_false] at hq ⊢
    rcases hq with h | h | h <;> simp [h]
  · rintro ii v m₂ news₂ I ro h₂ tk₂ hv hI hoI ⟨rfl, hm2⟩ F₂ N₂
    clear kF kN
    obtain ⟨d, lf, n, u, u', nn, rfl, hdm, hgi, hzi⟩ : ∃ (d : Addr) (lf : Str) (n : Nat) (u u' : Tok) (nn : Nat), v = .ref d ∧ (d, tup #[.str lf u, .int (n : Int) u'] nn) ∈ [(D, tup #[.str row tr, .int (turn : Int) tt] 0), (a, tup #[.str f ta, .int (k : Int) ta'] na), (448, tabObj ps)] ∧ Inv first lf n ∧ places lf = [] := by
      match ii, hv with
      | 0, hv => cases hv; exact ⟨_, _, _, _, _, _, rfl, .head _, hg, hz⟩
      | 1, hv => cases hv; exact ⟨_, _, _, _, _, _, rfl, .tail _ (.head _), hg2, hz2⟩
      | ii + 2, hv => simp at hv
    replace F₂ := known_at (l := [(Str.ofString "first", Value.str first tf)]) F₂ (allP_cons hm2 allP_nil)
    change Fr h₀ L _ _ at F₂
    change News h₀ L _ _ at N₂
    have hli := hgi.len
    have hsi := hgi.sum
    have hd2 := List.mem_cons_of_mem (I, ro) (List.mem_cons_of_mem (l, listOf #[.ref D, .ref a] 0) hdm)
    obtain ⟨cone, hone⟩ := one_sign hzi
    have hasc := hgi.ascii
    have hA : 2 * Txt.count first (Str.ofString "a") - (first.length : Int) ≤ Txt.count lf (Str.ofString "a") := by
      rw [show Str.ofString "a" = (⟨#[97]⟩ : Str) by decide +kernel]; exact hgi.left 97
    have hB : 2 * Txt.count first (Str.ofString "b") - (first.length : Int) ≤ Txt.count lf (Str.ofString "b") := by
      rw [show Str.ofString "b" = (⟨#[98]⟩ : Str) by decide +kernel]; exact hgi.left 98
    have hC : 2 * Txt.count first (Str.ofString "c") - (first.length : Int) ≤ Txt.count lf (Str.ofString "c") := by
      rw [show Str.ofString "c" = (⟨#[99]⟩ : Str) by decide +kernel]; exact hgi.left 99
    k_steps
    all_goals first
      | exact false_only
      | rename_i kF2 kN2
    all_goals first
      | exact ls_next kF2 (News.sub kN2 fun q hq => by first | exact hq | exact .tail _ hq | exact .tail _ (.tail _ hq) | exact .tail _ (.tail _ (.tail _ hq))) hoI ⟨rfl, rfl⟩
      | (exfalso; omega)
  · rintro m₂ news₂ h₂ tk₂ ⟨rfl, hm2⟩ F₂ N₂
    change Fr h₀ L _ _ at F₂
    change News h₀ L _ _ at N₂
    clear kF kN
    k_steps
    (with_reducible rename Fr h₀ L _ _ => kF2)
    (with_reducible rename News h₀ L _ _ => kN2)
    exact ret _ _ _ _ [] kF2 (News.sub kN2 fun q hq => by rw [List.mem_singleton.mp hq]; exact .tail _ (.tail _ (.head _)))
end
end Mine
end
section
open PySem PySem.Spec PySem.Calls PySem.W PyProof.Rows
namespace Mine
section
variable {fa : Addr} {prog : Program} {w : World} {p : Program} {loose : List Str} {mean : ExcName → Option Value} {mg mb : Str → Option Value}
set_option maxHeartbeats 0
theorem law2_end {A₀ : Around} {base h₀ h₁ : Heap} {outer : List Env} {L cl turn : Nat} {im : Led} {m : Str → Option Value} {wc wr wl : Obj} {c0 c1 c2 : Int} {t0 t1 t2 tf tr tt : Tok} {first row : Str} {ndv toldv : Value} {dp un tk : Nat} {gd : Option (List Code)} {s : Shared} {Q : Flow → Shared → Prop} {E : Value → Shared → Prop}
    (B : Below A₀ base outer h₀) (X : (KK w.params).In h₀) (T : Top p loose mean mg mb h₀) (F : Fr h₀ L h₁ m)
    (N : News h₀ L h₁ (frL cl L c0 c1 c2 t0 t1 t2 wc wr wl #[] ++ im)) (hs : Sep (frL cl L c0 c1 c2 t0 t1 t2 wc wr wl #[]) im) (hw : wc.data = .cell (some (.ref cl))) (hwr : wr.data = .cell (some (.str row tr))) (hL : 448 < L) (hcl : L + 1 + 1 + 1 < cl) (C : CodeHd h₀ 450 448)
    (hn : NodeIn im ndv nodeNd) (p2 : 0 ≤ c2) (hm : ∀ p ∈ frM first (turn : Nat) tf tt ndv toldv, m p.1 = some p.2) (hg : Inv first row turn) (hgf : Inv first first 0) (hz : places row = [])
    (hdp : dp + 250 < recursionLimit) (hun : un + 2500 < cLine)
    (hEE : PassesOwn (model prog w) ((lawTop dp un gd outer).deeper (lawEnv fa L)) (lawEnv fa L) E)
    (ret : ∀ h' tk' m' ps' news', Fr h₀ L h' m' → News h₀ L h' (((448 : Nat), tabObj ps') :: news') → Q (.ret (.bool true)) { s with heap := h', toks := tk' }) :
    wpAny (model prog w) ((lawTop dp un gd outer).deeper (lawEnv fa L)) (execs lawBody6 (lawEnv fa L)) Q E { s with heap := h₁, toks := tk } := by
  have f0 : 0 ≤ c2.fmod 3 := fmod_lo _ (by decide)
  obtain ⟨mm, hmm⟩ : ∃ mm : Nat, c2.fmod 3 = (mm : Int) := ⟨(c2.fmod 3).toNat, by omega⟩
  have hfl := hg.fl
  obtain ⟨e1, e2, e3⟩ := red_split mm 9 (row := first) (by omega)
  have i1 := red_inv mm hgf
  have i2 := red_inv 9 hgf
  rw [Nat.zero_add] at i1 i2
  refine law2_front B X T F N hs hw hwr hL hcl C hn p2 hm hfl hmm rfl hdp hun ?_
  intro a na ta ta' tM cA ps1 h1 tk1 m1 eps1 F1 N1 S1 M1
  refine law2_begun B X T F1 N1 S1 hw hwr hL hcl C (hn.mono fun q hq => .tail _ hq) p2 M1 hfl (by have : c2.fmod 3 < 3 := fmod_hi _ (by decide); omega) eps1 hdp hun ?_
  intro b nb tb tb' cB ps2 h2 tk2 m2 eps2 F2 N2 S2 M2
  refine law2_rest B X T F2 N2 S2 hw hwr hL hcl C (hn.mono fun q hq => .tail _ (.tail _ hq)) p2 M2 hfl i1.len eps2 hdp hun ?_
  intro r nr tc tc' cC ps3 h3 tk3 m3 eps3 F3 N3 S3 M3
  rw [e1] at N3
  exact law2_fin B X T F3 N3 hw hwr hL hcl C M3 e2 e3 hfl hg i2 hz (red_done 9 (by omega)) hdp hun hEE ret
end
end Mine
end
end
section
open PySem PySem.Spec PySem.Calls PySem.W PyProof.Rows
namespace Mine
local macro_rules | `(tactic| walk_at "newTuple") => `(tactic| (k_here; k_dflt (refine' kup_newTuple ?F ?N ?_ ?z; (case F => k_asm); (case N => k_asm); (case z => kmk_size)); intro D' h' F' N' l1; (try k_lt l1); (try k_sweep)))
local macro_rules | `(tactic| k_room) => `(tactic| first | assumption | exact And.left (by assumption) | exact And.left (And.right (by assumption)) | exact And.left (And.right (And.right (by assumption))) | exact And.left (And.right (And.right (And.right (by assumption)))) | exact And.left (And.right (And.right (And.right (And.right (by assumption))))) | exact And.left (And.right (And.right (And.right (And.right (And.right (by assumption)))))) | exact And.left (And.right (And.right (And.right (And.right (And.right (And.right (by assumption))))))) | exact And.left (And.right (And.right (And.right (And.right (And.right (And.right (And.right (by assumption)))))))) | exact And.left (And.right (And.right (And.right (And.right (And.right (And.right (And.right (And.right (by assumption))))))))) | exact And.left (And.right (And.right (And.right (And.right (And.right (And.right (And.right (And.right (And.right (by assumption)))))))))) | exact And.left (And.right (And.right (And.right (And.right (And.right (And.right (And.right (And.right (And.right (And.right (by assumption))))))))))) | exact And.left (And.right (And.right (And.right (And.right (And.right (And.right (And.right (And.right (And.right (And.right (And.right (by assumption)))))))))))) | exact And.left (And.right (And.right (And.right (And.right (And.right (And.right (And.right (And.right (And.right (And.right (And.right (And.right (by assumption))))))))))))) | exact And.left (And.right (And.right (And.right (And.right (And.right (And.right (And.right (And.right (And.right (And.right (And.right (And.right (And.right (by assumption)))))))))))))) | exact And.left (And.right (And.right (And.right (And.right (And.right (And.right (And.right (And.right (And.right (And.right (And.right (And.right (And.right (And.right (by assumption))))))))))))))) | exact And.left (And.right (And.right (And.right (And.right (And.right (And.right (And.right (And.right (And.right (And.right (And.right (And.right (And.right (And.right (And.right (by assumption)))))))))))))))) | exact And.left (And.right (And.right (And.right (And.right (And.right (And.right (And.right (And.right (And.right (And.right (And.right (And.right (And.right (And.right (And.right (And.right (by assumption))))))))))))))))) | omega)
local macro_rules | `(tactic| k_room) => `(tactic| ktr_room)
local macro_rules | `(tactic| walk_at "callWith ref") => `(tactic| (k_here; k_dflt (refine' callWith_K ?k1 ?k2 ?_; (case k1 => k_asm); (case k2 => k_is); k_whole)))
section
theorem swap_app {h₀ h : Heap} {L : Addr} {l1 l2 : Led} (N : News h₀ L h (l1 ++ l2)) : News h₀ L h (l2 ++ l1) := News.sub N fun q hq => (List.mem_append.mp hq).elim (fun h => List.mem_append_right _ h) fun h => List.mem_append_left _ h
end
section
variable {fa : Addr} {prog : Program} {w : World} {p : Program} {loose : List Str} {mean : ExcName → Option Value} {mg mb : Str → Option Value}
set_option maxRecDepth 100000
set_option maxHeartbeats 0
theorem law2_nodes {tl : List Stmt} {A₀ : Around} {base h₀ h₁ : Heap} {outer : List Env} {L cl : Nat} {m : Str → Option Value} {wc wr wl : Obj} {c0 c1 c2 : Int} {t0 t1 t2 tr : Tok} {row : Str} {dp un tk : Nat} {gd : Option (List Code)} {s : Shared} {Q : Flow → Shared → Prop} {E : Value → Shared → Prop}
    (B : Below A₀ base outer h₀) (X : (KK w.params).In h₀) (T : Top p loose mean mg mb h₀) (F : Fr h₀ L h₁ m)
    (N : News h₀ L h₁ [((cl : Nat), listOf #[.int c0 t0, .int c1 t1, .int c2 t2] 0), ((L + 1 + 1 + 1 : Nat), wl), ((L + 1 + 1 : Nat), wr), ((L + 1 : Nat), wc), ((448 : Nat), tabObj #[])]) (hw : wc.data = .cell (some (.ref cl))) (hwr : wr.data = .cell none) (hwl : wl.data = .cell none) (hL : 448 < L) (hcl : L + 1 + 1 + 1 < cl) (C : CodeHd h₀ 450 448)
    (p2 : 0 ≤ c2) (hm2 : m (Str.ofString "first") = some (.str row tr)) (hinv : Inv row row 0)
    (hdp : dp + 250 < recursionLimit) (hun : un + 2500 < cLine)
    (next : ∀ (im : Led) (m' : Str → Option Value) (wr' : Obj) (tr' tt' : Tok) (ndv toldv : Value) h' tk', Fr h₀ L h' m' → News h₀ L h' (frL cl L c0 c1 c2 t0 t1 t2 wc wr' wl #[] ++ im) → Sep (frL cl L c0 c1 c2 t0 t1 t2 wc wr' wl #[]) im → wr'.data = .cell (some (.str row tr')) → NodeIn im toldv toldNd → NodeIn im ndv nodeNd → (∀ p ∈ frM row 0 tr tt' ndv toldv, m' p.1 = some p.2) → wpAny (model prog w) ((lawTop dp un gd outer).deeper (lawEnv fa L)) (execs tl (lawEnv fa L)) Q E { s with heap := h', toks := tk' }) :
    wpAny (model prog w) ((lawTop dp un gd outer).deeper (lawEnv fa L)) (execs (hWh ++ tl) (lawEnv fa L)) Q E { s with heap := h₁, toks := tk } := by
  have hmk : ∀ p ∈ [(Str.ofString "first", Value.str row tr)], m p.1 = some p.2 := allP_cons hm2 allP_nil
  rw [knownL _ hmk] at F
  clear hmk
  unfold hWh
  unfold lawEnv lawScope lit at *
  simp only [List.cons_append, List.nil_append]
  k_steps
  (with_reducible rename Fr h₀ L _ _ => kF)
  (with_reducible rename News h₀ L _ _ => kN)
  rename Obj.data _ = Data.cell (some (Value.str _ _)) => kd
  have kN2 := swap_app (l1 := [_, _, _, _, _, _, _, _, _, _, _, _, _, _, _]) (l2 := [_, _, _, _, _]) kN
  refine next _ _ _ _ _ _ _ _ _ kF kN2 ?hsp kd ?ht ?hn (allP_cons rfl (allP_cons rfl (allP_cons rfl (allP_cons rfl allP_nil))))
  case hn => exact (NodeIn.cat (.tail _ (.tail _ (.tail _ (.tail _ (.tail _ (.tail _ (.tail _ (.head _)))))))) (NodeIn.now (.tail _ (.tail _ (.tail _ (.tail _ (.tail _ (.tail _ (.tail _ (.tail _ (.tail _ (.tail _ (.tail _ (.head _)))))))))))) (NodeIn.len (.tail _ (.tail _ (.tail _ (.tail _ (.tail _ (.tail _ (.tail _ (.tail _ (.tail _ (.tail _ (.tail _ (.tail _ (.tail _ (.tail _ (.head _))))))))))))))) (by decide)) (NameIn.mk (.tail _ (.tail _ (.tail _ (.tail _ (.tail _ (.tail _ (.tail _ (.tail _ (.tail _ (.tail _ (.tail _ (.tail _ (.head _))))))))))))) (.tail _ (.tail _ (.tail _ (.tail _ (.tail _ (.tail _ (.tail _ (.tail _ (.tail _ (.tail _ (.tail _ (.tail _ (.tail _ (.head _)))))))))))))) (by decide))) (NodeIn.notanyD (.tail _ (.tail _ (.tail _ (.tail _ (.tail _ (.tail _ (.tail _ (.tail _ (.head _))))))))) (.tail _ (.tail _ (.tail _ (.tail _ (.tail _ (.tail _ (.tail _ (.tail _ (.tail _ (.head _)))))))))) (.tail _ (.tail _ (.tail _ (.tail _ (.tail _ (.tail _ (.tail _ (.tail _ (.tail _ (.tail _ (.head _))))))))))) (by decide)))
  case ht => exact NodeIn.cat (.tail _ (.head _)) (NodeIn.cat (.tail _ (.tail _ (.tail _ (.tail _ (.tail _ (.tail _ (.tail _ (.head _)))))))) (NodeIn.now (.tail _ (.tail _ (.tail _ (.tail _ (.tail _ (.tail _ (.tail _ (.tail _ (.tail _ (.tail _ (.tail _ (.head _)))))))))))) (NodeIn.len (.tail _ (.tail _ (.tail _ (.tail _ (.tail _ (.tail _ (.tail _ (.tail _ (.tail _ (.tail _ (.tail _ (.tail _ (.tail _ (.tail _ (.head _))))))))))))))) (by decide)) (NameIn.mk (.tail _ (.tail _ (.tail _ (.tail _ (.tail _ (.tail _ (.tail _ (.tail _ (.tail _ (.tail _ (.tail _ (.tail _ (.head _))))))))))))) (.tail _ (.tail _ (.tail _ (.tail _ (.tail _ (.tail _ (.tail _ (.tail _ (.tail _ (.tail _ (.tail _ (.tail _ (.tail _ (.head _)))))))))))))) (by decide))) (NodeIn.notanyD (.tail _ (.tail _ (.tail _ (.tail _ (.tail _ (.tail _ (.tail _ (.tail _ (.head _))))))))) (.tail _ (.tail _ (.tail _ (.tail _ (.tail _ (.tail _ (.tail _ (.tail _ (.tail _ (.head _)))))))))) (.tail _ (.tail _ (.tail _ (.tail _ (.tail _ (.tail _ (.tail _ (.tail _ (.tail _ (.tail _ (.head _))))))))))) (by decide))) (NodeIn.cat (.tail _ (.tail _ (.head _))) (NodeIn.cursor (.tail _ (.tail _ (.tail _ (.tail _ (.head _))))) (NameIn.mk (.tail _ (.tail _ (.tail _ (.tail _ (.tail _ (.head _)))))) (.tail _ (.tail _ (.tail _ (.tail _ (.tail _ (.tail _ (.head _))))))) (by decide))) (NodeIn.fail (.tail _ (.tail _ (.tail _ (.head _))))))
  case hsp => exact (Sep.up (frLt hcl hL (by k_room)) (Sep.up (frLt hcl hL (by k_room)) (Sep.up (frLt hcl hL (by k_room)) (Sep.up (frLt hcl hL (by k_room)) (Sep.up (frLt hcl hL (by k_room)) (Sep.up (frLt hcl hL (by k_room)) (Sep.up (frLt hcl hL (by k_room)) (Sep.up (frLt hcl hL (by k_room)) (Sep.up (frLt hcl hL (by k_room)) (Sep.up (frLt hcl hL (by k_room)) (Sep.up (frLt hcl hL (by k_room)) (Sep.up (frLt hcl hL (by k_room)) (Sep.up (frLt hcl hL (by k_room)) (Sep.up (frLt hcl hL (by k_room)) (Sep.up (frLt hcl hL (by k_room)) sepNil)))))))))))))))
end
end Mine
end
section
open PySem PySem.Spec PySem.Calls PySem.W PyProof.Rows
namespace Mine
theorem abc_item (i : Int) : ∃ z, z < 128 ∧ Txt.item (Str.ofString "abc") (i.fmod 3) = ⟨#[z]⟩ := by
  have f1 : 0 ≤ i.fmod 3 := fmod_lo _ (by decide)
  have f2 : i.fmod 3 < 3 := fmod_hi _ (by decide)
  have h : i.fmod 3 = 0 ∨ i.fmod 3 = 1 ∨ i.fmod 3 = 2 := by omega
  rcases h with h | h | h <;> rw [h]
  · exact ⟨97, by decide, by decide +kernel⟩
  · exact ⟨98, by decide, by decide +kernel⟩
  · exact ⟨99, by decide, by decide +kernel⟩
theorem sum_one : ∀ l : List Str, (∀ t ∈ l, t.length ≤ 1) → (l.map (·.length)).sum ≤ l.length
  | [], _ => Nat.le_refl _
  | t :: r, h => by
    have h1 := h t (.head _)
    have h2 := sum_one r fun x hx => h x (.tail _ hx)
    rw [List.map_cons, List.sum_cons, List.length_cons]
    omega
theorem first_inv (c0 c1 : Int) : Inv (firstOf c0 c1) (firstOf c0 c1) 0 := by
  have f1 : 0 ≤ c0.fmod 7 := fmod_lo _ (by decide)
  have f2 : c0.fmod 7 < 7 := fmod_hi _ (by decide)
  have e0 : Str.ofString "" = Str.empty := by decide +kernel
  have ej : firstOf c0 c1 = Str.join (Str.ofString "") ((rangeKs 0 (1 + c0.fmod 7).toNat).map fun k => Txt.item (Str.ofString "abc") ((c1.fdiv (3 ^ k.toNat)).fmod 3)) := eq_of_beq (join_closes rfl)
  have hone : ∀ t ∈ (rangeKs 0 (1 + c0.fmod 7).toNat).map (fun k => Txt.item (Str.ofString "abc") ((c1.fdiv (3 ^ k.toNat)).fmod 3)), ∃ z, z < 128 ∧ t = ⟨#[z]⟩ := by
    intro t ht
    obtain ⟨k, _, rfl⟩ := List.mem_map.mp ht
    exact abc_item _
  have hn : ((rangeKs 0 (1 + c0.fmod 7).toNat).map fun k => Txt.item (Str.ofString "abc") ((c1.fdiv (3 ^ k.toNat)).fmod 3)).length ≤ 7 := by
    rw [List.length_map]
    have : (rangeKs 0 (1 + c0.fmod 7).toNat).length = (1 + c0.fmod 7).toNat := rangeKs_length _ _
    omega
  generalize (rangeKs 0 (1 + c0.fmod 7).toNat).map (fun k => Txt.item (Str.ofString "abc") ((c1.fdiv (3 ^ k.toNat)).fmod 3)) = ts at ej hone hn
  have hl : (firstOf c0 c1).length ≤ 7 := by
    rw [ej]
    refine Nat.le_trans (StrLaws.join_length_le _ _) ?_
    have h1 := sum_one ts fun t ht => by obtain ⟨z, _, rfl⟩ := hone t ht; exact Nat.le_refl _
    have h2 : (Str.ofString "").length = 0 := by decide +kernel
    rw [h2, Nat.mul_zero]
    omega
  refine ⟨hl, hl, rfl, fun c => Int.le_refl _, fun z hz => ?_⟩
  rw [ej, PyProof.Rows.mem_join] at hz
  rcases hz with ⟨t, ht, hzt⟩ | ⟨_, hz⟩
  · obtain ⟨y, hy, rfl⟩ := hone t ht
    have : z = y := by simpa using hzt
    omega
  · have : (Str.ofString "").cps.toList = [] := by decide +kernel
    rw [this] at hz
    cases hz
set_option maxRecDepth 100000
set_option maxHeartbeats 0
section
variable {fa : Addr} {prog : Program} {w : World} {p : Program} {loose : List Str} {mean : ExcName → Option Value} {mg mb : Str → Option Value}
theorem law2_body {A₀ : Around} {base h₀ h₁ : Heap} {outer : List Env} {L sc : Nat} {m : Str → Option Value} {wc wr wl : Obj} {vs : List Value} {ns : List Int} {dp un tk : Nat} {gd : Option (List Code)} {s : Shared} {Q : Flow → Shared → Prop} {E : Value → Shared → Prop}
    (B : Below A₀ base outer h₀) (X : (KK w.params).In h₀) (T : Top p loose mean mg mb h₀) (F : Fr h₀ L h₁ m) (hm : ∀ y, m y = [(Str.ofString "script", Value.ref sc)].lookup y)
    (N : News h₀ L h₁ [((L + 1 + 1 + 1 : Nat), wl), ((L + 1 + 1 : Nat), wr), ((L + 1 : Nat), wc), ((448 : Nat), tabObj #[])]) (hw : wc.data = .cell none) (hwr : wr.data = .cell none) (hwl : wl.data = .cell none) (hL : 448 < L) (C : CodeHd h₀ 450 448) (hl : h₀.IsList sc vs.toArray) (hI : IntsAre vs ns) (hlen : ns.length ≤ 63)
    (hdp : dp + 250 < recursionLimit) (hun : un + 2500 < cLine)
    (hEE : PassesOwn (model prog w) ((lawTop dp un gd outer).deeper (lawEnv fa L)) (lawEnv fa L) E)
    (ret : ∀ h' tk' m' ps' news', Fr h₀ L h' m' → News h₀ L h' (((448 : Nat), tabObj ps') :: news') → Q (.ret (.bool true)) { s with heap := h', toks := tk' }) :
    wpAny (model prog w) ((lawTop dp un gd outer).deeper (lawEnv fa L)) (execs lawBody (lawEnv fa L)) Q E { s with heap := h₁, toks := tk } := by
  refine law2_pre (s := { s with toks := tk }) B X T F hm N hw hL hl hI hlen hdp hun ?_
  intro cl c0 c1 c2 t0 t1 t2 wc1 h1 tk1 m1 p0 p1 p2 F1 N1 hw1 hcl
  refine law2_row (s := { s with toks := tk1 }) B X T F1 N1 hw1 hL hcl p0 p1 p2 hdp hun ?_
  intro tr h2 tk2 m2 F2 N2 e1
  have hinv := first_inv c0 c1
  refine law2_nodes (s := s) B X T F2 N2 hw1 hwr hwl hL hcl C p2 e1 hinv hdp hun ?_
  intro im m3 wr3 tr3 tt3 ndv toldv h3 tk3 F3 N3 S3 d3 ht hn M3
  refine law2_loop (s := s) B X T F3 N3 S3 hw1 d3 hwl hL hcl C ht hn p2 M3 hinv hdp hun hEE ?_
  intro m4 wr4 wl4 row turn tr4 tt4 h4 tk4 F4 N4 S4 d4 M4 hg4 hz4
  exact law2_end (s := s) B X T F4 N4 S4 hw1 d4 hL hcl C hn p2 M4 hg4 hinv hz4 hdp hun hEE ret
end
end Mine
end
section
open PySem PySem.Spec PySem.Calls PySem.W PyProof.Rows
namespace Mine
set_option maxRecDepth 100000
set_option maxHeartbeats 0
theorem bindL_one {k : Str → Option NameKind} {n : Str} {v : Value} (h : k n = some .local) (y : Str) : bindL k [(n, v)] (fun _ => none) y = [(n, v)].lookup y := by
  show bindL k [] (if k n = some .local then fun y => if y = n then some v else none else fun _ => none) y = _
  rw [if_pos h]
  show (if y = n then some v else none) = _
  rw [List.lookup_cons]
  by_cases e : y = n
  · subst e; simp
  · have e2 : (y == n) = false := by simpa using e
    rw [e2, if_neg e]; rfl
end Mine
set_option maxRecDepth 100000 in
set_option maxHeartbeats 0 in
open Mine in
theorem PySem.Challenge.cw_xm0956_02_holds : PySem.Challenge.rw_xm0956_02.Holds := by
  w_on
  refine holds_law hd_said fun said => ?_
  refine holds_open (q := vw) (loose := ls) (Xt := Xt0) (XP := XL vw []) (Yf := hk.obs) (Ya := hk.val) (YP := hk.says) (N := 5948) hd_left hk.of hk.keeps (fun s e => xl_of s (Bool.and_eq_true_iff.mp e).1) XL.keeps (by rfl) (by rfl) (by rfl) (fun s e => recFacts_of (Bool.and_eq_true_iff.mp e).2) (by first | rfl | fail "open_line: no head takes a call that writes beside a table") (by first | assumption | decide +kernel) hd_ok hd_bare ?hw ?_
  (case hw => w_witness2)
  w_strict k_go0
  (with_reducible rename Fr _ _ _ _ => kF)
  (with_reducible rename News _ _ _ _ => kN)
  (with_reducible rename Frag.In _ _ => kX)
  (rename Top topProg _ _ _ _ _ => kT)
  (with_reducible rename Below _ _ _ _ => kB)
  (with_reducible rename CodeHd _ _ _ => kC)
  (rename Heap.IsList (ghostOf _ _) _ _ => kL)
  (with_reducible rename IntsAre _ _ => kI)
  (with_reducible rename CellsAre _ _ _ => kCell)
  (with_reducible rename _ < Array.size _ => kLt)


  refine law2_body (dp := 301) (un := 4) (gd := some []) (outer := []) kB kX kT kF ?hm kN ?hw ?hwr ?hwl kLt kC kL kI ?hlen ?hdp ?hun ?hEE ?ret
  case hdp => decide
  case hun => rw [cLine_is]; decide
  case hlen =>
    rename ¬ (_ : Int) < _ => hc
    omega
  case hw => assumption
  case hwr => assumption
  case hwl => assumption
  case hEE => first | passes_own | with_unfolding_all passes_own
  case hm =>
    exact fun y => bindL_one rfl y
  case ret =>
    intro h' tk' m' ps' news' F9 N9
    dsimp only
    refine ⟨?_, GrownAt.of N9 (.head _), trivial⟩
    wrow_close
end
