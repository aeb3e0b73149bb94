import PyProof.Rows.All
import Wide.All
import OpenK.AllK
import Wide.FinOn
import PySem.Challenge.RW_qd0173_01
open PySem PySem.W PySem.Spec PySem.Calls PyProof.Rows
set_option Elab.async false
set_option maxRecDepth 100000
set_option maxHeartbeats 8000000
set_option linter.all false
namespace Mine
/-- a hdCell of a body; the body of a class; the syntax of a def -/
def hdCell : List Stmt → Nat → Stmt
  | s :: _, 0 => s
  | _ :: r, n + 1 => hdCell r n
  | [], _ => .Pass ⟨0, 0, 0, 0⟩
def hdIn : Stmt → List Stmt
  | .ClassDef _ _ _ b _ _ _ _ _ _ _ => b
  | _ => []
def hdParts : Stmt → Arguments × List Stmt × Scope
  | .FunctionDef _ a b _ _ _ c _ _ _ => (a, b, c)
  | _ => (⟨[], [], none, [], [], none, []⟩, [], ⟨.function, [], false, false, []⟩)
abbrev hdBody : List Stmt := PySem.Challenge.pw_qd0173_01.main.body
def hdLit {t : Arguments × List Stmt × Scope} (a : Arguments) (b : List Stmt) (c : Scope) (_ : (a, b, c) = t) : Arguments := a
/-- the objects of the top that the law reaches; a def's syntax is read off the program -/
noncomputable def hd.heap_39 : Params → Frag := fun P => (
  (Prod.mk (α := Nat) (nat_lit 2) (({cls := Value.none, dict := (none : Option Nat), data := Data.dict #[{hash := PyData.keyHash P (Str.ofString "type.__subclasses__.Exception.0"), key := Value.str (Str.ofString "type.__subclasses__.Exception.0") (387 : Nat), val := Value.int 152 (0 : Nat)}, {hash := PyData.keyHash P (Str.ofString "type.__subclasses__.Exception.n"), key := Value.str (Str.ofString "type.__subclasses__.Exception.n") (388 : Nat), val := Value.int 1 (0 : Nat)}] 2} : Obj))) ::
  (Prod.mk (α := Nat) (nat_lit 3) (({cls := Value.type "dict", dict := (none : Option Nat), data := Data.dict (List.toArray ({hash := PyData.keyHash P (Str.ofString "__name__"), key := Value.str (Str.ofString "__name__") (165 : Nat), val := Value.str (Str.ofString "law_qd0173_01") (772 : Nat)} :: {hash := PyData.keyHash P (Str.ofString "__doc__"), key := Value.str (Str.ofString "__doc__") (166 : Nat), val := Value.none} :: {hash := PyData.keyHash P (Str.ofString "__package__"), key := Value.str (Str.ofString "__package__") (167 : Nat), val := Value.none} :: {hash := PyData.keyHash P (Str.ofString "__loader__"), key := Value.str (Str.ofString "__loader__") (168 : Nat), val := Value.builtin "__main__.__loader__#opaque"} :: {hash := PyData.keyHash P (Str.ofString "__spec__"), key := Value.str (Str.ofString "__spec__") (169 : Nat), val := Value.none} :: {hash := PyData.keyHash P (Str.ofString "__annotations__"), key := Value.str (Str.ofString "__annotations__") (170 : Nat), val := Value.ref (6 : Nat)} :: {hash := PyData.keyHash P (Str.ofString "__builtins__"), key := Value.str (Str.ofString "__builtins__") (171 : Nat), val := Value.ref (4 : Nat)} :: {hash := PyData.keyHash P (Str.ofString "__file__"), key := Value.str (Str.ofString "__file__") (173 : Nat), val := Value.str (Str.ofString "/claim/cut.py") (172 : Nat)} :: {hash := PyData.keyHash P (Str.ofString "__cached__"), key := Value.str (Str.ofString "__cached__") (174 : Nat), val := Value.none} :: {hash := PyData.keyHash P (Str.ofString "_wall"), key := Value.str (Str.ofString "_wall") (193 : Nat), val := Value.ref (21 : Nat)} :: {hash := PyData.keyHash P (Str.ofString "get_attr"), key := Value.str (Str.ofString "get_attr") (203 : Nat), val := Value.ref (28 : Nat)} :: {hash := PyData.keyHash P (Str.ofString "names_of"), key := Value.str (Str.ofString "names_of") (209 : Nat), val := Value.ref (33 : Nat)} :: {hash := PyData.keyHash P (Str.ofString "dim_of"), key := Value.str (Str.ofString "dim_of") (217 : Nat), val := Value.ref (40 : Nat)} :: {hash := PyData.keyHash P (Str.ofString "dimnames_of"), key := Value.str (Str.ofString "dimnames_of") (223 : Nat), val := Value.ref (45 : Nat)} :: {hash := PyData.keyHash P (Str.ofString "nearest_whole"), key := Value.str (Str.ofString "nearest_whole") (235 : Nat), val := Value.ref (52 : Nat)} :: {hash := PyData.keyHash P (Str.ofString "exponent"), key := Value.str (Str.ofString "exponent") (245 : Nat), val := Value.ref (59 : Nat)} :: {hash := PyData.keyHash P (Str.ofString "whole_text"), key := Value.str (Str.ofString "whole_text") (257 : Nat), val := Value.ref (66 : Nat)} :: {hash := PyData.keyHash P (Str.ofString "special_text"), key := Value.str (Str.ofString "special_text") (264 : Nat), val := Value.ref (73 : Nat)} :: {hash := PyData.keyHash P (Str.ofString "scaled"), key := Value.str (Str.ofString "scaled") (274 : Nat), val := Value.ref (80 : Nat)} :: {hash := PyData.keyHash P (Str.ofString "significant"), key := Value.str (Str.ofString "significant") (284 : Nat), val := Value.ref (87 : Nat)} :: {hash := PyData.keyHash P (Str.ofString "without_tail"), key := Value.str (Str.ofString "without_tail") (292 : Nat), val := Value.ref (94 : Nat)} :: {hash := PyData.keyHash P (Str.ofString "scientific_text"), key := Value.str (Str.ofString "scientific_text") (304 : Nat), val := Value.ref (101 : Nat)} :: {hash := PyData.keyHash P (Str.ofString "fixed_text"), key := Value.str (Str.ofString "fixed_text") (314 : Nat), val := Value.ref (108 : Nat)} :: {hash := PyData.keyHash P (Str.ofString "measures"), key := Value.str (Str.ofString "measures") (327 : Nat), val := Value.ref (115 : Nat)} :: {hash := PyData.keyHash P (Str.ofString "chosen_form"), key := Value.str (Str.ofString "chosen_form") (344 : Nat), val := Value.ref (122 : Nat)} :: {hash := PyData.keyHash P (Str.ofString "formed"), key := Value.str (Str.ofString "formed") (353 : Nat), val := Value.ref (129 : Nat)} :: {hash := PyData.keyHash P (Str.ofString "common_texts"), key := Value.str (Str.ofString "common_texts") (359 : Nat), val := Value.ref (134 : Nat)} :: {hash := PyData.keyHash P (Str.ofString "number_text"), key := Value.str (Str.ofString "number_text") (368 : Nat), val := Value.ref (142 : Nat)} :: {hash := PyData.keyHash P (Str.ofString "CoveError"), key := Value.str (Str.ofString "CoveError") (390 : Nat), val := Value.ref (152 : Nat)} :: {hash := PyData.keyHash P (Str.ofString "Refusal"), key := Value.str (Str.ofString "Refusal") (415 : Nat), val := Value.ref (172 : Nat)} :: {hash := PyData.keyHash P (Str.ofString "MOST_LENGTH"), key := Value.str (Str.ofString "MOST_LENGTH") (419 : Nat), val := Value.int 1000000 (418 : Nat)} :: {hash := PyData.keyHash P (Str.ofString "Vector"), key := Value.str (Str.ofString "Vector") (461 : Nat), val := Value.ref (199 : Nat)} :: {hash := PyData.keyHash P (Str.ofString "room"), key := Value.str (Str.ofString "room") (468 : Nat), val := Value.ref (210 : Nat)} :: {hash := PyData.keyHash P (Str.ofString "length"), key := Value.str (Str.ofString "length") (476 : Nat), val := Value.ref (217 : Nat)} :: {hash := PyData.keyHash P (Str.ofString "is_atomic"), key := Value.str (Str.ofString "is_atomic") (483 : Nat), val := Value.ref (224 : Nat)} :: {hash := PyData.keyHash P (Str.ofString "ROW_SHARE"), key := Value.str (Str.ofString "ROW_SHARE") (487 : Nat), val := Value.int 50 (486 : Nat)} :: {hash := PyData.keyHash P (Str.ofString "grown_text"), key := Value.str (Str.ofString "grown_text") (495 : Nat), val := Value.ref (231 : Nat)} :: {hash := PyData.keyHash P (Str.ofString "escaped_char"), key := Value.str (Str.ofString "escaped_char") (506 : Nat), val := Value.ref (238 : Nat)} :: {hash := PyData.keyHash P (Str.ofString "encode_text"), key := Value.str (Str.ofString "encode_text") (512 : Nat), val := Value.ref (243 : Nat)} :: {hash := PyData.keyHash P (Str.ofString "logical_text"), key := Value.str (Str.ofString "logical_text") (519 : Nat), val := Value.ref (250 : Nat)} :: {hash := PyData.keyHash P (Str.ofString "integer_text"), key := Value.str (Str.ofString "integer_text") (526 : Nat), val := Value.ref (257 : Nat)} :: {hash := PyData.keyHash P (Str.ofString "format_item"), key := Value.str (Str.ofString "format_item") (537 : Nat), val := Value.ref (265 : Nat)} :: {hash := PyData.keyHash P (Str.ofString "item_texts"), key := Value.str (Str.ofString "item_texts") (544 : Nat), val := Value.ref (271 : Nat)} :: {hash := PyData.keyHash P (Str.ofString "widest"), key := Value.str (Str.ofString "widest") (553 : Nat), val := Value.ref (278 : Nat)} :: {hash := PyData.keyHash P (Str.ofString "is_factor"), key := Value.str (Str.ofString "is_factor") (560 : Nat), val := Value.ref (285 : Nat)} :: {hash := PyData.keyHash P (Str.ofString "level_texts"), key := Value.str (Str.ofString "level_texts") (566 : Nat), val := Value.ref (290 : Nat)} :: {hash := PyData.keyHash P (Str.ofString "factor_labels"), key := Value.str (Str.ofString "factor_labels") (578 : Nat), val := Value.ref (297 : Nat)} :: {hash := PyData.keyHash P (Str.ofString "short_kind"), key := Value.str (Str.ofString "short_kind") (585 : Nat), val := Value.ref (304 : Nat)} :: {hash := PyData.keyHash P (Str.ofString "short_form"), key := Value.str (Str.ofString "short_form") (592 : Nat), val := Value.ref (311 : Nat)} :: {hash := PyData.keyHash P (Str.ofString "format_list_items"), key := Value.str (Str.ofString "format_list_items") (598 : Nat), val := Value.ref (316 : Nat)} :: {hash := PyData.keyHash P (Str.ofString "PAGE"), key := Value.str (Str.ofString "PAGE") (600 : Nat), val := Value.int 80 (599 : Nat)} :: {hash := PyData.keyHash P (Str.ofString "GAP"), key := Value.str (Str.ofString "GAP") (604 : Nat), val := Value.int 1 (603 : Nat)} :: {hash := PyData.keyHash P (Str.ofString "LEAST_OFFSET"), key := Value.str (Str.ofString "LEAST_OFFSET") (606 : Nat), val := Value.int 2 (605 : Nat)} :: {hash := PyData.keyHash P (Str.ofString "Layout"), key := Value.str (Str.ofString "Layout") (642 : Nat), val := Value.ref (333 : Nat)} :: {hash := PyData.keyHash P (Str.ofString "shown_names"), key := Value.str (Str.ofString "shown_names") (648 : Nat), val := Value.ref (342 : Nat)} :: {hash := PyData.keyHash P (Str.ofString "row_offset"), key := Value.str (Str.ofString "row_offset") (656 : Nat), val := Value.ref (349 : Nat)} :: {hash := PyData.keyHash P (Str.ofString "label_room"), key := Value.str (Str.ofString "label_room") (663 : Nat), val := Value.ref (356 : Nat)} :: {hash := PyData.keyHash P (Str.ofString "row_label"), key := Value.str (Str.ofString "row_label") (673 : Nat), val := Value.ref (363 : Nat)} :: {hash := PyData.keyHash P (Str.ofString "column_head"), key := Value.str (Str.ofString "column_head") (681 : Nat), val := Value.ref (370 : Nat)} :: {hash := PyData.keyHash P (Str.ofString "padded"), key := Value.str (Str.ofString "padded") (690 : Nat), val := Value.ref (377 : Nat)} :: {hash := PyData.keyHash P (Str.ofString "block_rows"), key := Value.str (Str.ofString "block_rows") (706 : Nat), val := Value.ref (384 : Nat)} :: {hash := PyData.keyHash P (Str.ofString "layout_rows"), key := Value.str (Str.ofString "layout_rows") (722 : Nat), val := Value.ref (391 : Nat)} :: {hash := PyData.keyHash P (Str.ofString "frame_cells"), key := Value.str (Str.ofString "frame_cells") (730 : Nat), val := Value.ref (398 : Nat)} :: {hash := PyData.keyHash P (Str.ofString "frame_columns"), key := Value.str (Str.ofString "frame_columns") (746 : Nat), val := Value.ref (405 : Nat)} :: {hash := PyData.keyHash P (Str.ofString "filled_cells"), key := Value.str (Str.ofString "filled_cells") (756 : Nat), val := Value.ref (412 : Nat)} :: {hash := PyData.keyHash P (Str.ofString "frame_labels"), key := Value.str (Str.ofString "frame_labels") (764 : Nat), val := Value.ref (419 : Nat)} :: {hash := PyData.keyHash P (Str.ofString "print_frame"), key := Value.str (Str.ofString "print_frame") (771 : Nat), val := Value.ref (425 : Nat)} :: {hash := PyData.keyHash P (Str.ofString "_law_plums"), key := Value.str (Str.ofString "_law_plums") (784 : Nat), val := Value.ref (432 : Nat)} :: {hash := PyData.keyHash P (Str.ofString "_law_plum"), key := Value.str (Str.ofString "_law_plum") (792 : Nat), val := Value.ref (439 : Nat)} :: {hash := PyData.keyHash P (Str.ofString "_law_column"), key := Value.str (Str.ofString "_law_column") (798 : Nat), val := Value.ref (444 : Nat)} :: {hash := PyData.keyHash P (Str.ofString "law"), key := Value.str (Str.ofString "law") (804 : Nat), val := Value.ref (449 : Nat)} :: [])) 71} : Obj))) ::
  (Prod.mk (α := Nat) (nat_lit 15) (({cls := Value.type "tuple", dict := (none : Option Nat), data := Data.seq #[]} : Obj))) ::
  (Prod.mk (α := Nat) (nat_lit 17) (({cls := Value.type "tuple", dict := (none : Option Nat), data := Data.seq #[Value.str (Str.ofString "k") (190 : Nat)]} : Obj))) ::
  (Prod.mk (α := Nat) (nat_lit 18) (({cls := Value.type "tuple", dict := (none : Option Nat), data := Data.seq #[]} : Obj))) ::
  (Prod.mk (α := Nat) (nat_lit 20) (({cls := Value.type "code", dict := (none : Option Nat), data := Data.fields #[Value.str (Str.ofString "_wall") (187 : Nat), Value.str (Str.ofString "_wall") (188 : Nat), Value.str (Str.ofString "/claim/cut.py") (189 : Nat), Value.int 1 (0 : Nat), Value.int 1 (0 : Nat), Value.int 0 (0 : Nat), Value.int 0 (0 : Nat), Value.int 3 (0 : Nat), Value.ref (15 : Nat), Value.bool true, Value.int 181 (0 : Nat), Value.ref (16 : Nat), Value.none, Value.ref (17 : Nat), Value.ref (18 : Nat), Value.ref (19 : Nat), Value.int 191 (0 : Nat), Value.int 1 (0 : Nat), Value.str (Str.ofString "/claim/cut.py") (192 : Nat)]} : Obj))) ::
  (Prod.mk (α := Nat) (nat_lit 21) (let_mvar% ?a21 := _; let_mvar% ?b21 := _; let_mvar% ?c21 := _; ({cls := Value.type "function", dict := (none : Option Nat), data := Data.func {name := Str.ofString "_wall", qualname := Str.ofString "_wall", params := (?a21 : type_of% (hdLit ?a21 ?b21 ?c21 (rfl : _ = hdParts (hdCell hdBody 0)))), body := .stmts ?b21, scope := ?c21, annotations := (none : Option Nat), builtins := (0 : Nat), globals := (3 : Nat), closure := ([] : List (Str × Nat)), defaults := Value.none, kwdefaults := Value.none, pyModule := Value.str (Str.ofString "__main__") (164 : Nat), code := Value.ref (20 : Nat)}} : Obj))) ::
  (Prod.mk (α := Nat) (nat_lit 22) (({cls := Value.type "tuple", dict := (none : Option Nat), data := Data.seq #[]} : Obj))) ::
  (Prod.mk (α := Nat) (nat_lit 24) (({cls := Value.type "tuple", dict := (none : Option Nat), data := Data.seq #[Value.str (Str.ofString "v") (199 : Nat), Value.str (Str.ofString "name") (200 : Nat)]} : Obj))) ::
  (Prod.mk (α := Nat) (nat_lit 25) (({cls := Value.type "tuple", dict := (none : Option Nat), data := Data.seq #[]} : Obj))) ::
  (Prod.mk (α := Nat) (nat_lit 27) (({cls := Value.type "code", dict := (none : Option Nat), data := Data.fields #[Value.str (Str.ofString "get_attr") (196 : Nat), Value.str (Str.ofString "get_attr") (197 : Nat), Value.str (Str.ofString "/claim/cut.py") (198 : Nat), Value.int 5 (0 : Nat), Value.int 2 (0 : Nat), Value.int 0 (0 : Nat), Value.int 0 (0 : Nat), Value.int 3 (0 : Nat), Value.ref (22 : Nat), Value.bool true, Value.int 181 (0 : Nat), Value.ref (23 : Nat), Value.none, Value.ref (24 : Nat), Value.ref (25 : Nat), Value.ref (26 : Nat), Value.int 201 (0 : Nat), Value.int 5 (0 : Nat), Value.str (Str.ofString "/claim/cut.py") (202 : Nat)]} : Obj))) ::
  (Prod.mk (α := Nat) (nat_lit 28) (let_mvar% ?a28 := _; let_mvar% ?b28 := _; let_mvar% ?c28 := _; ({cls := Value.type "function", dict := (none : Option Nat), data := Data.func {name := Str.ofString "get_attr", qualname := Str.ofString "get_attr", params := (?a28 : type_of% (hdLit ?a28 ?b28 ?c28 (rfl : _ = hdParts (hdCell hdBody 2)))), body := .stmts ?b28, scope := ?c28, annotations := (none : Option Nat), builtins := (0 : Nat), globals := (3 : Nat), closure := ([] : List (Str × Nat)), defaults := Value.none, kwdefaults := Value.none, pyModule := Value.str (Str.ofString "vectorcove.attrs") (194 : Nat), code := Value.ref (27 : Nat)}} : Obj))) ::
  (Prod.mk (α := Nat) (nat_lit 29) (({cls := Value.type "tuple", dict := (none : Option Nat), data := Data.seq #[]} : Obj))) ::
  (Prod.mk (α := Nat) (nat_lit 32) (({cls := Value.type "code", dict := (none : Option Nat), data := Data.fields #[Value.str (Str.ofString "names_of") (204 : Nat), Value.str (Str.ofString "names_of") (205 : Nat), Value.str (Str.ofString "/claim/cut.py") (206 : Nat), Value.int 9 (0 : Nat), Value.int 1 (0 : Nat), Value.int 0 (0 : Nat), Value.int 0 (0 : Nat), Value.int 3 (0 : Nat), Value.ref (29 : Nat), Value.bool true, Value.int 181 (0 : Nat), Value.ref (30 : Nat), Value.none, Value.none, Value.none, Value.ref (31 : Nat), Value.int 207 (0 : Nat), Value.int 9 (0 : Nat), Value.str (Str.ofString "/claim/cut.py") (208 : Nat)]} : Obj))) ::
  (Prod.mk (α := Nat) (nat_lit 33) (let_mvar% ?a33 := _; let_mvar% ?b33 := _; let_mvar% ?c33 := _; ({cls := Value.type "function", dict := (none : Option Nat), data := Data.func {name := Str.ofString "names_of", qualname := Str.ofString "names_of", params := (?a33 : type_of% (hdLit ?a33 ?b33 ?c33 (rfl : _ = hdParts (hdCell hdBody 3)))), body := .stmts ?b33, scope := ?c33, annotations := (none : Option Nat), builtins := (0 : Nat), globals := (3 : Nat), closure := ([] : List (Str × Nat)), defaults := Value.none, kwdefaults := Value.none, pyModule := Value.str (Str.ofString "vectorcove.attrs") (194 : Nat), code := Value.ref (32 : Nat)}} : Obj))) ::
  (Prod.mk (α := Nat) (nat_lit 34) (({cls := Value.type "tuple", dict := (none : Option Nat), data := Data.seq #[]} : Obj))) ::
  (Prod.mk (α := Nat) (nat_lit 36) (({cls := Value.type "tuple", dict := (none : Option Nat), data := Data.seq #[Value.str (Str.ofString "v") (213 : Nat), Value.str (Str.ofString "dims") (214 : Nat)]} : Obj))) ::
  (Prod.mk (α := Nat) (nat_lit 37) (({cls := Value.type "tuple", dict := (none : Option Nat), data := Data.seq #[]} : Obj))) ::
  (Prod.mk (α := Nat) (nat_lit 39) (({cls := Value.type "code", dict := (none : Option Nat), data := Data.fields #[Value.str (Str.ofString "dim_of") (210 : Nat), Value.str (Str.ofString "dim_of") (211 : Nat), Value.str (Str.ofString "/claim/cut.py") (212 : Nat), Value.int 25 (0 : Nat), Value.int 1 (0 : Nat), Value.int 0 (0 : Nat), Value.int 0 (0 : Nat), Value.int 3 (0 : Nat), Value.ref (34 : Nat), Value.bool true, Value.int 181 (0 : Nat), Value.ref (35 : Nat), Value.none, Value.ref (36 : Nat), Value.ref (37 : Nat), Value.ref (38 : Nat), Value.int 215 (0 : Nat), Value.int 25 (0 : Nat), Value.str (Str.ofString "/claim/cut.py") (216 : Nat)]} : Obj))) ::
  (Prod.mk (α := Nat) (nat_lit 40) (let_mvar% ?a40 := _; let_mvar% ?b40 := _; let_mvar% ?c40 := _; ({cls := Value.type "function", dict := (none : Option Nat), data := Data.func {name := Str.ofString "dim_of", qualname := Str.ofString "dim_of", params := (?a40 : type_of% (hdLit ?a40 ?b40 ?c40 (rfl : _ = hdParts (hdCell hdBody 4)))), body := .stmts ?b40, scope := ?c40, annotations := (none : Option Nat), builtins := (0 : Nat), globals := (3 : Nat), closure := ([] : List (Str × Nat)), defaults := Value.none, kwdefaults := Value.none, pyModule := Value.str (Str.ofString "vectorcove.attrs") (194 : Nat), code := Value.ref (39 : Nat)}} : Obj))) ::
  (Prod.mk (α := Nat) (nat_lit 41) (({cls := Value.type "tuple", dict := (none : Option Nat), data := Data.seq #[]} : Obj))) ::
  (Prod.mk (α := Nat) (nat_lit 44) (({cls := Value.type "code", dict := (none : Option Nat), data := Data.fields #[Value.str (Str.ofString "dimnames_of") (218 : Nat), Value.str (Str.ofString "dimnames_of") (219 : Nat), Value.str (Str.ofString "/claim/cut.py") (220 : Nat), Value.int 30 (0 : Nat), Value.int 1 (0 : Nat), Value.int 0 (0 : Nat), Value.int 0 (0 : Nat), Value.int 3 (0 : Nat), Value.ref (41 : Nat), Value.bool true, Value.int 181 (0 : Nat), Value.ref (42 : Nat), Value.none, Value.none, Value.none, Value.ref (43 : Nat), Value.int 221 (0 : Nat), Value.int 30 (0 : Nat), Value.str (Str.ofString "/claim/cut.py") (222 : Nat)]} : Obj))) ::
  (Prod.mk (α := Nat) (nat_lit 45) (let_mvar% ?a45 := _; let_mvar% ?b45 := _; let_mvar% ?c45 := _; ({cls := Value.type "function", dict := (none : Option Nat), data := Data.func {name := Str.ofString "dimnames_of", qualname := Str.ofString "dimnames_of", params := (?a45 : type_of% (hdLit ?a45 ?b45 ?c45 (rfl : _ = hdParts (hdCell hdBody 5)))), body := .stmts ?b45, scope := ?c45, annotations := (none : Option Nat), builtins := (0 : Nat), globals := (3 : Nat), closure := ([] : List (Str × Nat)), defaults := Value.none, kwdefaults := Value.none, pyModule := Value.str (Str.ofString "vectorcove.attrs") (194 : Nat), code := Value.ref (44 : Nat)}} : Obj))) ::
  (Prod.mk (α := Nat) (nat_lit 46) (({cls := Value.type "tuple", dict := (none : Option Nat), data := Data.seq #[]} : Obj))) ::
  (Prod.mk (α := Nat) (nat_lit 48) (({cls := Value.type "tuple", dict := (none : Option Nat), data := Data.seq #[Value.str (Str.ofString "n") (229 : Nat), Value.str (Str.ofString "d") (230 : Nat), Value.str (Str.ofString "low") (231 : Nat), Value.str (Str.ofString "rest") (232 : Nat)]} : Obj))) ::
  (Prod.mk (α := Nat) (nat_lit 49) (({cls := Value.type "tuple", dict := (none : Option Nat), data := Data.seq #[]} : Obj))) ::
  (Prod.mk (α := Nat) (nat_lit 51) (({cls := Value.type "code", dict := (none : Option Nat), data := Data.fields #[Value.str (Str.ofString "nearest_whole") (226 : Nat), Value.str (Str.ofString "nearest_whole") (227 : Nat), Value.str (Str.ofString "/claim/cut.py") (228 : Nat), Value.int 36 (0 : Nat), Value.int 2 (0 : Nat), Value.int 0 (0 : Nat), Value.int 0 (0 : Nat), Value.int 3 (0 : Nat), Value.ref (46 : Nat), Value.bool true, Value.int 181 (0 : Nat), Value.ref (47 : Nat), Value.none, Value.ref (48 : Nat), Value.ref (49 : Nat), Value.ref (50 : Nat), Value.int 233 (0 : Nat), Value.int 36 (0 : Nat), Value.str (Str.ofString "/claim/cut.py") (234 : Nat)]} : Obj))) ::
  (Prod.mk (α := Nat) (nat_lit 52) (let_mvar% ?a52 := _; let_mvar% ?b52 := _; let_mvar% ?c52 := _; ({cls := Value.type "function", dict := (none : Option Nat), data := Data.func {name := Str.ofString "nearest_whole", qualname := Str.ofString "nearest_whole", params := (?a52 : type_of% (hdLit ?a52 ?b52 ?c52 (rfl : _ = hdParts (hdCell hdBody 7)))), body := .stmts ?b52, scope := ?c52, annotations := (none : Option Nat), builtins := (0 : Nat), globals := (3 : Nat), closure := ([] : List (Str × Nat)), defaults := Value.none, kwdefaults := Value.none, pyModule := Value.str (Str.ofString "vectorcove.rational") (224 : Nat), code := Value.ref (51 : Nat)}} : Obj))) ::
  (Prod.mk (α := Nat) (nat_lit 53) (({cls := Value.type "tuple", dict := (none : Option Nat), data := Data.seq #[]} : Obj))) ::
  (Prod.mk (α := Nat) (nat_lit 55) (({cls := Value.type "tuple", dict := (none : Option Nat), data := Data.seq #[Value.str (Str.ofString "x") (239 : Nat), Value.str (Str.ofString "n") (240 : Nat), Value.str (Str.ofString "d") (241 : Nat), Value.str (Str.ofString "e") (242 : Nat)]} : Obj))) ::
  (Prod.mk (α := Nat) (nat_lit 56) (({cls := Value.type "tuple", dict := (none : Option Nat), data := Data.seq #[]} : Obj))) ::
  (Prod.mk (α := Nat) (nat_lit 58) (({cls := Value.type "code", dict := (none : Option Nat), data := Data.fields #[Value.str (Str.ofString "exponent") (236 : Nat), Value.str (Str.ofString "exponent") (237 : Nat), Value.str (Str.ofString "/claim/cut.py") (238 : Nat), Value.int 42 (0 : Nat), Value.int 1 (0 : Nat), Value.int 0 (0 : Nat), Value.int 0 (0 : Nat), Value.int 3 (0 : Nat), Value.ref (53 : Nat), Value.bool true, Value.int 181 (0 : Nat), Value.ref (54 : Nat), Value.none, Value.ref (55 : Nat), Value.ref (56 : Nat), Value.ref (57 : Nat), Value.int 243 (0 : Nat), Value.int 42 (0 : Nat), Value.str (Str.ofString "/claim/cut.py") (244 : Nat)]} : Obj))) ::
  (Prod.mk (α := Nat) (nat_lit 59) (let_mvar% ?a59 := _; let_mvar% ?b59 := _; let_mvar% ?c59 := _; ({cls := Value.type "function", dict := (none : Option Nat), data := Data.func {name := Str.ofString "exponent", qualname := Str.ofString "exponent", params := (?a59 : type_of% (hdLit ?a59 ?b59 ?c59 (rfl : _ = hdParts (hdCell hdBody 8)))), body := .stmts ?b59, scope := ?c59, annotations := (none : Option Nat), builtins := (0 : Nat), globals := (3 : Nat), closure := ([] : List (Str × Nat)), defaults := Value.none, kwdefaults := Value.none, pyModule := Value.str (Str.ofString "vectorcove.rational") (224 : Nat), code := Value.ref (58 : Nat)}} : Obj))) ::
  (Prod.mk (α := Nat) (nat_lit 60) (({cls := Value.type "tuple", dict := (none : Option Nat), data := Data.seq #[]} : Obj))) ::
  (Prod.mk (α := Nat) (nat_lit 62) (({cls := Value.type "tuple", dict := (none : Option Nat), data := Data.seq #[Value.str (Str.ofString "n") (251 : Nat), Value.str (Str.ofString "rest") (252 : Nat), Value.str (Str.ofString "row") (253 : Nat), Value.str (Str.ofString "part") (254 : Nat)]} : Obj))) ::
  (Prod.mk (α := Nat) (nat_lit 63) (({cls := Value.type "tuple", dict := (none : Option Nat), data := Data.seq #[]} : Obj))) ::
  (Prod.mk (α := Nat) (nat_lit 65) (({cls := Value.type "code", dict := (none : Option Nat), data := Data.fields #[Value.str (Str.ofString "whole_text") (248 : Nat), Value.str (Str.ofString "whole_text") (249 : Nat), Value.str (Str.ofString "/claim/cut.py") (250 : Nat), Value.int 54 (0 : Nat), Value.int 1 (0 : Nat), Value.int 0 (0 : Nat), Value.int 0 (0 : Nat), Value.int 3 (0 : Nat), Value.ref (60 : Nat), Value.bool true, Value.int 181 (0 : Nat), Value.ref (61 : Nat), Value.none, Value.ref (62 : Nat), Value.ref (63 : Nat), Value.ref (64 : Nat), Value.int 255 (0 : Nat), Value.int 54 (0 : Nat), Value.str (Str.ofString "/claim/cut.py") (256 : Nat)]} : Obj))) ::
  (Prod.mk (α := Nat) (nat_lit 66) (let_mvar% ?a66 := _; let_mvar% ?b66 := _; let_mvar% ?c66 := _; ({cls := Value.type "function", dict := (none : Option Nat), data := Data.func {name := Str.ofString "whole_text", qualname := Str.ofString "whole_text", params := (?a66 : type_of% (hdLit ?a66 ?b66 ?c66 (rfl : _ = hdParts (hdCell hdBody 10)))), body := .stmts ?b66, scope := ?c66, annotations := (none : Option Nat), builtins := (0 : Nat), globals := (3 : Nat), closure := ([] : List (Str × Nat)), defaults := Value.none, kwdefaults := Value.none, pyModule := Value.str (Str.ofString "vectorcove.numtext") (246 : Nat), code := Value.ref (65 : Nat)}} : Obj))) ::
  (Prod.mk (α := Nat) (nat_lit 67) (({cls := Value.type "tuple", dict := (none : Option Nat), data := Data.seq #[]} : Obj))) ::
  (Prod.mk (α := Nat) (nat_lit 69) (({cls := Value.type "tuple", dict := (none : Option Nat), data := Data.seq #[Value.str (Str.ofString "x") (261 : Nat)]} : Obj))) ::
  (Prod.mk (α := Nat) (nat_lit 70) (({cls := Value.type "tuple", dict := (none : Option Nat), data := Data.seq #[]} : Obj))) ::
  (Prod.mk (α := Nat) (nat_lit 72) (({cls := Value.type "code", dict := (none : Option Nat), data := Data.fields #[Value.str (Str.ofString "special_text") (258 : Nat), Value.str (Str.ofString "special_text") (259 : Nat), Value.str (Str.ofString "/claim/cut.py") (260 : Nat), Value.int 65 (0 : Nat), Value.int 1 (0 : Nat), Value.int 0 (0 : Nat), Value.int 0 (0 : Nat), Value.int 3 (0 : Nat), Value.ref (67 : Nat), Value.bool true, Value.int 181 (0 : Nat), Value.ref (68 : Nat), Value.none, Value.ref (69 : Nat), Value.ref (70 : Nat), Value.ref (71 : Nat), Value.int 262 (0 : Nat), Value.int 65 (0 : Nat), Value.str (Str.ofString "/claim/cut.py") (263 : Nat)]} : Obj))) ::
  (Prod.mk (α := Nat) (nat_lit 73) (let_mvar% ?a73 := _; let_mvar% ?b73 := _; let_mvar% ?c73 := _; ({cls := Value.type "function", dict := (none : Option Nat), data := Data.func {name := Str.ofString "special_text", qualname := Str.ofString "special_text", params := (?a73 : type_of% (hdLit ?a73 ?b73 ?c73 (rfl : _ = hdParts (hdCell hdBody 11)))), body := .stmts ?b73, scope := ?c73, annotations := (none : Option Nat), builtins := (0 : Nat), globals := (3 : Nat), closure := ([] : List (Str × Nat)), defaults := Value.none, kwdefaults := Value.none, pyModule := Value.str (Str.ofString "vectorcove.numtext") (246 : Nat), code := Value.ref (72 : Nat)}} : Obj))) ::
  (Prod.mk (α := Nat) (nat_lit 74) (({cls := Value.type "tuple", dict := (none : Option Nat), data := Data.seq #[]} : Obj))) ::
  (Prod.mk (α := Nat) (nat_lit 76) (({cls := Value.type "tuple", dict := (none : Option Nat), data := Data.seq #[Value.str (Str.ofString "x") (268 : Nat), Value.str (Str.ofString "e") (269 : Nat), Value.str (Str.ofString "digits") (270 : Nat), Value.str (Str.ofString "shift") (271 : Nat)]} : Obj))) ::
  (Prod.mk (α := Nat) (nat_lit 77) (({cls := Value.type "tuple", dict := (none : Option Nat), data := Data.seq #[]} : Obj))) ::
  (Prod.mk (α := Nat) (nat_lit 79) (({cls := Value.type "code", dict := (none : Option Nat), data := Data.fields #[Value.str (Str.ofString "scaled") (265 : Nat), Value.str (Str.ofString "scaled") (266 : Nat), Value.str (Str.ofString "/claim/cut.py") (267 : Nat), Value.int 73 (0 : Nat), Value.int 3 (0 : Nat), Value.int 0 (0 : Nat), Value.int 0 (0 : Nat), Value.int 3 (0 : Nat), Value.ref (74 : Nat), Value.bool true, Value.int 181 (0 : Nat), Value.ref (75 : Nat), Value.none, Value.ref (76 : Nat), Value.ref (77 : Nat), Value.ref (78 : Nat), Value.int 272 (0 : Nat), Value.int 73 (0 : Nat), Value.str (Str.ofString "/claim/cut.py") (273 : Nat)]} : Obj))) ::
  (Prod.mk (α := Nat) (nat_lit 80) (let_mvar% ?a80 := _; let_mvar% ?b80 := _; let_mvar% ?c80 := _; ({cls := Value.type "function", dict := (none : Option Nat), data := Data.func {name := Str.ofString "scaled", qualname := Str.ofString "scaled", params := (?a80 : type_of% (hdLit ?a80 ?b80 ?c80 (rfl : _ = hdParts (hdCell hdBody 12)))), body := .stmts ?b80, scope := ?c80, annotations := (none : Option Nat), builtins := (0 : Nat), globals := (3 : Nat), closure := ([] : List (Str × Nat)), defaults := Value.none, kwdefaults := Value.none, pyModule := Value.str (Str.ofString "vectorcove.numtext") (246 : Nat), code := Value.ref (79 : Nat)}} : Obj))) ::
  (Prod.mk (α := Nat) (nat_lit 81) (({cls := Value.type "tuple", dict := (none : Option Nat), data := Data.seq #[]} : Obj))) ::
  (Prod.mk (α := Nat) (nat_lit 83) (({cls := Value.type "tuple", dict := (none : Option Nat), data := Data.seq #[Value.str (Str.ofString "x") (278 : Nat), Value.str (Str.ofString "digits") (279 : Nat), Value.str (Str.ofString "e") (280 : Nat), Value.str (Str.ofString "n") (281 : Nat)]} : Obj))) ::
  (Prod.mk (α := Nat) (nat_lit 84) (({cls := Value.type "tuple", dict := (none : Option Nat), data := Data.seq #[]} : Obj))) ::
  (Prod.mk (α := Nat) (nat_lit 86) (({cls := Value.type "code", dict := (none : Option Nat), data := Data.fields #[Value.str (Str.ofString "significant") (275 : Nat), Value.str (Str.ofString "significant") (276 : Nat), Value.str (Str.ofString "/claim/cut.py") (277 : Nat), Value.int 78 (0 : Nat), Value.int 2 (0 : Nat), Value.int 0 (0 : Nat), Value.int 0 (0 : Nat), Value.int 3 (0 : Nat), Value.ref (81 : Nat), Value.bool true, Value.int 181 (0 : Nat), Value.ref (82 : Nat), Value.none, Value.ref (83 : Nat), Value.ref (84 : Nat), Value.ref (85 : Nat), Value.int 282 (0 : Nat), Value.int 78 (0 : Nat), Value.str (Str.ofString "/claim/cut.py") (283 : Nat)]} : Obj))) ::
  (Prod.mk (α := Nat) (nat_lit 87) (let_mvar% ?a87 := _; let_mvar% ?b87 := _; let_mvar% ?c87 := _; ({cls := Value.type "function", dict := (none : Option Nat), data := Data.func {name := Str.ofString "significant", qualname := Str.ofString "significant", params := (?a87 : type_of% (hdLit ?a87 ?b87 ?c87 (rfl : _ = hdParts (hdCell hdBody 13)))), body := .stmts ?b87, scope := ?c87, annotations := (none : Option Nat), builtins := (0 : Nat), globals := (3 : Nat), closure := ([] : List (Str × Nat)), defaults := Value.none, kwdefaults := Value.none, pyModule := Value.str (Str.ofString "vectorcove.numtext") (246 : Nat), code := Value.ref (86 : Nat)}} : Obj))) ::
  (Prod.mk (α := Nat) (nat_lit 88) (({cls := Value.type "tuple", dict := (none : Option Nat), data := Data.seq #[]} : Obj))) ::
  (Prod.mk (α := Nat) (nat_lit 90) (({cls := Value.type "tuple", dict := (none : Option Nat), data := Data.seq #[Value.str (Str.ofString "text") (288 : Nat), Value.str (Str.ofString "end") (289 : Nat)]} : Obj))) ::
  (Prod.mk (α := Nat) (nat_lit 91) (({cls := Value.type "tuple", dict := (none : Option Nat), data := Data.seq #[]} : Obj))) ::
  (Prod.mk (α := Nat) (nat_lit 93) (({cls := Value.type "code", dict := (none : Option Nat), data := Data.fields #[Value.str (Str.ofString "without_tail") (285 : Nat), Value.str (Str.ofString "without_tail") (286 : Nat), Value.str (Str.ofString "/claim/cut.py") (287 : Nat), Value.int 87 (0 : Nat), Value.int 1 (0 : Nat), Value.int 0 (0 : Nat), Value.int 0 (0 : Nat), Value.int 3 (0 : Nat), Value.ref (88 : Nat), Value.bool true, Value.int 181 (0 : Nat), Value.ref (89 : Nat), Value.none, Value.ref (90 : Nat), Value.ref (91 : Nat), Value.ref (92 : Nat), Value.int 290 (0 : Nat), Value.int 87 (0 : Nat), Value.str (Str.ofString "/claim/cut.py") (291 : Nat)]} : Obj))) ::
  (Prod.mk (α := Nat) (nat_lit 94) (let_mvar% ?a94 := _; let_mvar% ?b94 := _; let_mvar% ?c94 := _; ({cls := Value.type "function", dict := (none : Option Nat), data := Data.func {name := Str.ofString "without_tail", qualname := Str.ofString "without_tail", params := (?a94 : type_of% (hdLit ?a94 ?b94 ?c94 (rfl : _ = hdParts (hdCell hdBody 14)))), body := .stmts ?b94, scope := ?c94, annotations := (none : Option Nat), builtins := (0 : Nat), globals := (3 : Nat), closure := ([] : List (Str × Nat)), defaults := Value.none, kwdefaults := Value.none, pyModule := Value.str (Str.ofString "vectorcove.numtext") (246 : Nat), code := Value.ref (93 : Nat)}} : Obj))) ::
  (Prod.mk (α := Nat) (nat_lit 95) (({cls := Value.type "tuple", dict := (none : Option Nat), data := Data.seq #[]} : Obj))) ::
  (Prod.mk (α := Nat) (nat_lit 97) (({cls := Value.type "tuple", dict := (none : Option Nat), data := Data.seq #[Value.str (Str.ofString "x") (296 : Nat), Value.str (Str.ofString "digits") (297 : Nat), Value.str (Str.ofString "side") (298 : Nat), Value.str (Str.ofString "text") (299 : Nat), Value.str (Str.ofString "e") (300 : Nat), Value.str (Str.ofString "row") (301 : Nat)]} : Obj))) ::
  (Prod.mk (α := Nat) (nat_lit 98) (({cls := Value.type "tuple", dict := (none : Option Nat), data := Data.seq #[]} : Obj))) ::
  (Prod.mk (α := Nat) (nat_lit 100) (({cls := Value.type "code", dict := (none : Option Nat), data := Data.fields #[Value.str (Str.ofString "scientific_text") (293 : Nat), Value.str (Str.ofString "scientific_text") (294 : Nat), Value.str (Str.ofString "/claim/cut.py") (295 : Nat), Value.int 92 (0 : Nat), Value.int 2 (0 : Nat), Value.int 0 (0 : Nat), Value.int 0 (0 : Nat), Value.int 3 (0 : Nat), Value.ref (95 : Nat), Value.bool true, Value.int 181 (0 : Nat), Value.ref (96 : Nat), Value.none, Value.ref (97 : Nat), Value.ref (98 : Nat), Value.ref (99 : Nat), Value.int 302 (0 : Nat), Value.int 92 (0 : Nat), Value.str (Str.ofString "/claim/cut.py") (303 : Nat)]} : Obj))) ::
  (Prod.mk (α := Nat) (nat_lit 101) (let_mvar% ?a101 := _; let_mvar% ?b101 := _; let_mvar% ?c101 := _; ({cls := Value.type "function", dict := (none : Option Nat), data := Data.func {name := Str.ofString "scientific_text", qualname := Str.ofString "scientific_text", params := (?a101 : type_of% (hdLit ?a101 ?b101 ?c101 (rfl : _ = hdParts (hdCell hdBody 15)))), body := .stmts ?b101, scope := ?c101, annotations := (none : Option Nat), builtins := (0 : Nat), globals := (3 : Nat), closure := ([] : List (Str × Nat)), defaults := Value.none, kwdefaults := Value.none, pyModule := Value.str (Str.ofString "vectorcove.numtext") (246 : Nat), code := Value.ref (100 : Nat)}} : Obj))) ::
  (Prod.mk (α := Nat) (nat_lit 102) (({cls := Value.type "tuple", dict := (none : Option Nat), data := Data.seq #[]} : Obj))) ::
  (Prod.mk (α := Nat) (nat_lit 104) (({cls := Value.type "tuple", dict := (none : Option Nat), data := Data.seq #[Value.str (Str.ofString "x") (308 : Nat), Value.str (Str.ofString "places") (309 : Nat), Value.str (Str.ofString "n") (310 : Nat), Value.str (Str.ofString "text") (311 : Nat)]} : Obj))) ::
  (Prod.mk (α := Nat) (nat_lit 105) (({cls := Value.type "tuple", dict := (none : Option Nat), data := Data.seq #[]} : Obj))) ::
  (Prod.mk (α := Nat) (nat_lit 107) (({cls := Value.type "code", dict := (none : Option Nat), data := Data.fields #[Value.str (Str.ofString "fixed_text") (305 : Nat), Value.str (Str.ofString "fixed_text") (306 : Nat), Value.str (Str.ofString "/claim/cut.py") (307 : Nat), Value.int 99 (0 : Nat), Value.int 2 (0 : Nat), Value.int 0 (0 : Nat), Value.int 0 (0 : Nat), Value.int 3 (0 : Nat), Value.ref (102 : Nat), Value.bool true, Value.int 181 (0 : Nat), Value.ref (103 : Nat), Value.none, Value.ref (104 : Nat), Value.ref (105 : Nat), Value.ref (106 : Nat), Value.int 312 (0 : Nat), Value.int 99 (0 : Nat), Value.str (Str.ofString "/claim/cut.py") (313 : Nat)]} : Obj))) ::
  (Prod.mk (α := Nat) (nat_lit 108) (let_mvar% ?a108 := _; let_mvar% ?b108 := _; let_mvar% ?c108 := _; ({cls := Value.type "function", dict := (none : Option Nat), data := Data.func {name := Str.ofString "fixed_text", qualname := Str.ofString "fixed_text", params := (?a108 : type_of% (hdLit ?a108 ?b108 ?c108 (rfl : _ = hdParts (hdCell hdBody 16)))), body := .stmts ?b108, scope := ?c108, annotations := (none : Option Nat), builtins := (0 : Nat), globals := (3 : Nat), closure := ([] : List (Str × Nat)), defaults := Value.none, kwdefaults := Value.none, pyModule := Value.str (Str.ofString "vectorcove.numtext") (246 : Nat), code := Value.ref (107 : Nat)}} : Obj))) ::
  (Prod.mk (α := Nat) (nat_lit 109) (({cls := Value.type "tuple", dict := (none : Option Nat), data := Data.seq #[]} : Obj))) ::
  (Prod.mk (α := Nat) (nat_lit 111) (({cls := Value.type "tuple", dict := (none : Option Nat), data := Data.seq #[Value.str (Str.ofString "x") (318 : Nat), Value.str (Str.ofString "digits") (319 : Nat), Value.str (Str.ofString "side") (320 : Nat), Value.str (Str.ofString "text") (321 : Nat), Value.str (Str.ofString "e") (322 : Nat), Value.str (Str.ofString "count") (323 : Nat), Value.str (Str.ofString "left") (324 : Nat)]} : Obj))) ::
  (Prod.mk (α := Nat) (nat_lit 112) (({cls := Value.type "tuple", dict := (none : Option Nat), data := Data.seq #[]} : Obj))) ::
  (Prod.mk (α := Nat) (nat_lit 114) (({cls := Value.type "code", dict := (none : Option Nat), data := Data.fields #[Value.str (Str.ofString "measures") (315 : Nat), Value.str (Str.ofString "measures") (316 : Nat), Value.str (Str.ofString "/claim/cut.py") (317 : Nat), Value.int 107 (0 : Nat), Value.int 2 (0 : Nat), Value.int 0 (0 : Nat), Value.int 0 (0 : Nat), Value.int 3 (0 : Nat), Value.ref (109 : Nat), Value.bool true, Value.int 181 (0 : Nat), Value.ref (110 : Nat), Value.none, Value.ref (111 : Nat), Value.ref (112 : Nat), Value.ref (113 : Nat), Value.int 325 (0 : Nat), Value.int 107 (0 : Nat), Value.str (Str.ofString "/claim/cut.py") (326 : Nat)]} : Obj))) ::
  (Prod.mk (α := Nat) (nat_lit 115) (let_mvar% ?a115 := _; let_mvar% ?b115 := _; let_mvar% ?c115 := _; ({cls := Value.type "function", dict := (none : Option Nat), data := Data.func {name := Str.ofString "measures", qualname := Str.ofString "measures", params := (?a115 : type_of% (hdLit ?a115 ?b115 ?c115 (rfl : _ = hdParts (hdCell hdBody 17)))), body := .stmts ?b115, scope := ?c115, annotations := (none : Option Nat), builtins := (0 : Nat), globals := (3 : Nat), closure := ([] : List (Str × Nat)), defaults := Value.none, kwdefaults := Value.none, pyModule := Value.str (Str.ofString "vectorcove.numtext") (246 : Nat), code := Value.ref (114 : Nat)}} : Obj))) ::
  (Prod.mk (α := Nat) (nat_lit 116) (({cls := Value.type "tuple", dict := (none : Option Nat), data := Data.seq #[]} : Obj))) ::
  (Prod.mk (α := Nat) (nat_lit 118) (({cls := Value.type "tuple", dict := (none : Option Nat), data := Data.seq #[Value.str (Str.ofString "xs") (331 : Nat), Value.str (Str.ofString "digits") (332 : Nat), Value.str (Str.ofString "count") (333 : Nat), Value.str (Str.ofString "left") (334 : Nat), Value.str (Str.ofString "places") (335 : Nat), Value.str (Str.ofString "wide") (336 : Nat), Value.str (Str.ofString "minus") (337 : Nat), Value.str (Str.ofString "x") (338 : Nat), Value.str (Str.ofString "row") (339 : Nat), Value.str (Str.ofString "fixed_width") (340 : Nat), Value.str (Str.ofString "scientific_width") (341 : Nat)]} : Obj))) ::
  (Prod.mk (α := Nat) (nat_lit 119) (({cls := Value.type "tuple", dict := (none : Option Nat), data := Data.seq #[]} : Obj))) ::
  (Prod.mk (α := Nat) (nat_lit 121) (({cls := Value.type "code", dict := (none : Option Nat), data := Data.fields #[Value.str (Str.ofString "chosen_form") (328 : Nat), Value.str (Str.ofString "chosen_form") (329 : Nat), Value.str (Str.ofString "/claim/cut.py") (330 : Nat), Value.int 114 (0 : Nat), Value.int 2 (0 : Nat), Value.int 0 (0 : Nat), Value.int 0 (0 : Nat), Value.int 3 (0 : Nat), Value.ref (116 : Nat), Value.bool true, Value.int 181 (0 : Nat), Value.ref (117 : Nat), Value.none, Value.ref (118 : Nat), Value.ref (119 : Nat), Value.ref (120 : Nat), Value.int 342 (0 : Nat), Value.int 114 (0 : Nat), Value.str (Str.ofString "/claim/cut.py") (343 : Nat)]} : Obj))) ::
  (Prod.mk (α := Nat) (nat_lit 122) (let_mvar% ?a122 := _; let_mvar% ?b122 := _; let_mvar% ?c122 := _; ({cls := Value.type "function", dict := (none : Option Nat), data := Data.func {name := Str.ofString "chosen_form", qualname := Str.ofString "chosen_form", params := (?a122 : type_of% (hdLit ?a122 ?b122 ?c122 (rfl : _ = hdParts (hdCell hdBody 18)))), body := .stmts ?b122, scope := ?c122, annotations := (none : Option Nat), builtins := (0 : Nat), globals := (3 : Nat), closure := ([] : List (Str × Nat)), defaults := Value.none, kwdefaults := Value.none, pyModule := Value.str (Str.ofString "vectorcove.numtext") (246 : Nat), code := Value.ref (121 : Nat)}} : Obj))) ::
  (Prod.mk (α := Nat) (nat_lit 123) (({cls := Value.type "tuple", dict := (none : Option Nat), data := Data.seq #[]} : Obj))) ::
  (Prod.mk (α := Nat) (nat_lit 125) (({cls := Value.type "tuple", dict := (none : Option Nat), data := Data.seq #[Value.str (Str.ofString "x") (348 : Nat), Value.str (Str.ofString "form") (349 : Nat), Value.str (Str.ofString "text") (350 : Nat)]} : Obj))) ::
  (Prod.mk (α := Nat) (nat_lit 126) (({cls := Value.type "tuple", dict := (none : Option Nat), data := Data.seq #[]} : Obj))) ::
  (Prod.mk (α := Nat) (nat_lit 128) (({cls := Value.type "code", dict := (none : Option Nat), data := Data.fields #[Value.str (Str.ofString "formed") (345 : Nat), Value.str (Str.ofString "formed") (346 : Nat), Value.str (Str.ofString "/claim/cut.py") (347 : Nat), Value.int 134 (0 : Nat), Value.int 2 (0 : Nat), Value.int 0 (0 : Nat), Value.int 0 (0 : Nat), Value.int 3 (0 : Nat), Value.ref (123 : Nat), Value.bool true, Value.int 181 (0 : Nat), Value.ref (124 : Nat), Value.none, Value.ref (125 : Nat), Value.ref (126 : Nat), Value.ref (127 : Nat), Value.int 351 (0 : Nat), Value.int 134 (0 : Nat), Value.str (Str.ofString "/claim/cut.py") (352 : Nat)]} : Obj))) ::
  (Prod.mk (α := Nat) (nat_lit 129) (let_mvar% ?a129 := _; let_mvar% ?b129 := _; let_mvar% ?c129 := _; ({cls := Value.type "function", dict := (none : Option Nat), data := Data.func {name := Str.ofString "formed", qualname := Str.ofString "formed", params := (?a129 : type_of% (hdLit ?a129 ?b129 ?c129 (rfl : _ = hdParts (hdCell hdBody 19)))), body := .stmts ?b129, scope := ?c129, annotations := (none : Option Nat), builtins := (0 : Nat), globals := (3 : Nat), closure := ([] : List (Str × Nat)), defaults := Value.none, kwdefaults := Value.none, pyModule := Value.str (Str.ofString "vectorcove.numtext") (246 : Nat), code := Value.ref (128 : Nat)}} : Obj))) ::
  (Prod.mk (α := Nat) (nat_lit 130) (({cls := Value.type "tuple", dict := (none : Option Nat), data := Data.seq #[]} : Obj))) ::
  (Prod.mk (α := Nat) (nat_lit 133) (({cls := Value.type "code", dict := (none : Option Nat), data := Data.fields #[Value.str (Str.ofString "common_texts") (354 : Nat), Value.str (Str.ofString "common_texts") (355 : Nat), Value.str (Str.ofString "/claim/cut.py") (356 : Nat), Value.int 141 (0 : Nat), Value.int 2 (0 : Nat), Value.int 0 (0 : Nat), Value.int 0 (0 : Nat), Value.int 3 (0 : Nat), Value.ref (130 : Nat), Value.bool true, Value.int 181 (0 : Nat), Value.ref (131 : Nat), Value.none, Value.none, Value.none, Value.ref (132 : Nat), Value.int 357 (0 : Nat), Value.int 141 (0 : Nat), Value.str (Str.ofString "/claim/cut.py") (358 : Nat)]} : Obj))) ::
  (Prod.mk (α := Nat) (nat_lit 134) (let_mvar% ?a134 := _; let_mvar% ?b134 := _; let_mvar% ?c134 := _; ({cls := Value.type "function", dict := (none : Option Nat), data := Data.func {name := Str.ofString "common_texts", qualname := Str.ofString "common_texts", params := (?a134 : type_of% (hdLit ?a134 ?b134 ?c134 (rfl : _ = hdParts (hdCell hdBody 20)))), body := .stmts ?b134, scope := ?c134, annotations := (none : Option Nat), builtins := (0 : Nat), globals := (3 : Nat), closure := ([] : List (Str × Nat)), defaults := Value.none, kwdefaults := Value.none, pyModule := Value.str (Str.ofString "vectorcove.numtext") (246 : Nat), code := Value.ref (133 : Nat)}} : Obj))) ::
  (Prod.mk (α := Nat) (nat_lit 135) (({cls := Value.type "tuple", dict := (none : Option Nat), data := Data.seq #[Value.int 7 (360 : Nat)]} : Obj))) ::
  (Prod.mk (α := Nat) (nat_lit 136) (({cls := Value.type "tuple", dict := (none : Option Nat), data := Data.seq #[]} : Obj))) ::
  (Prod.mk (α := Nat) (nat_lit 138) (({cls := Value.type "tuple", dict := (none : Option Nat), data := Data.seq #[Value.str (Str.ofString "x") (364 : Nat), Value.str (Str.ofString "digits") (365 : Nat)]} : Obj))) ::
  (Prod.mk (α := Nat) (nat_lit 139) (({cls := Value.type "tuple", dict := (none : Option Nat), data := Data.seq #[]} : Obj))) ::
  (Prod.mk (α := Nat) (nat_lit 141) (({cls := Value.type "code", dict := (none : Option Nat), data := Data.fields #[Value.str (Str.ofString "number_text") (361 : Nat), Value.str (Str.ofString "number_text") (362 : Nat), Value.str (Str.ofString "/claim/cut.py") (363 : Nat), Value.int 145 (0 : Nat), Value.int 2 (0 : Nat), Value.int 0 (0 : Nat), Value.int 0 (0 : Nat), Value.int 3 (0 : Nat), Value.ref (136 : Nat), Value.bool true, Value.int 181 (0 : Nat), Value.ref (137 : Nat), Value.none, Value.ref (138 : Nat), Value.ref (139 : Nat), Value.ref (140 : Nat), Value.int 366 (0 : Nat), Value.int 145 (0 : Nat), Value.str (Str.ofString "/claim/cut.py") (367 : Nat)]} : Obj))) ::
  (Prod.mk (α := Nat) (nat_lit 142) (let_mvar% ?a142 := _; let_mvar% ?b142 := _; let_mvar% ?c142 := _; ({cls := Value.type "function", dict := (none : Option Nat), data := Data.func {name := Str.ofString "number_text", qualname := Str.ofString "number_text", params := (?a142 : type_of% (hdLit ?a142 ?b142 ?c142 (rfl : _ = hdParts (hdCell hdBody 21)))), body := .stmts ?b142, scope := ?c142, annotations := (none : Option Nat), builtins := (0 : Nat), globals := (3 : Nat), closure := ([] : List (Str × Nat)), defaults := Value.ref (135 : Nat), kwdefaults := Value.none, pyModule := Value.str (Str.ofString "vectorcove.numtext") (246 : Nat), code := Value.ref (141 : Nat)}} : Obj))) ::
  (Prod.mk (α := Nat) (nat_lit 143) (({cls := Value.type "tuple", dict := (none : Option Nat), data := Data.seq #[Value.type "Exception"]} : Obj))) ::
  (Prod.mk (α := Nat) (nat_lit 150) (({cls := Value.type "tuple", dict := (none : Option Nat), data := Data.seq #[]} : Obj))) ::
  (Prod.mk (α := Nat) (nat_lit 151) (({cls := Value.type "dict", dict := (none : Option Nat), data := Data.dict #[{hash := PyData.keyHash P (Str.ofString "__module__"), key := Value.str (Str.ofString "__module__") (378 : Nat), val := Value.str (Str.ofString "vectorcove.errors") (369 : Nat)}, {hash := PyData.keyHash P (Str.ofString "__firstlineno__"), key := Value.str (Str.ofString "__firstlineno__") (382 : Nat), val := Value.int 148 (381 : Nat)}, {hash := PyData.keyHash P (Str.ofString "__static_attributes__"), key := Value.str (Str.ofString "__static_attributes__") (383 : Nat), val := Value.ref (150 : Nat)}, {hash := PyData.keyHash P (Str.ofString "__weakref__"), key := Value.str (Str.ofString "__weakref__") (385 : Nat), val := Value.ref (153 : Nat)}, {hash := PyData.keyHash P (Str.ofString "__doc__"), key := Value.str (Str.ofString "__doc__") (386 : Nat), val := Value.none}] 3} : Obj))) ::
  (Prod.mk (α := Nat) (nat_lit 152) (({cls := Value.type "type", dict := (none : Option Nat), data := Data.cls {name := Str.ofString "CoveError", bases := [Value.type "Exception"], mro := [Value.ref (152 : Nat), Value.type "Exception", Value.type "BaseException", Value.type "object"], ns := (151 : Nat), qualname := Str.ofString "CoveError", subclasses := [Value.ref (172 : Nat)]}, slots := #[some (Value.ref (143 : Nat)), none, some (Value.str (Str.ofString "CoveError") (371 : Nat)), some (Value.str (Str.ofString "CoveError") (379 : Nat)), some (Value.builtin "Exception.__new__"), some (Value.bool true)]} : Obj))) ::
  (Prod.mk (α := Nat) (nat_lit 153) (({cls := Value.type "getset_descriptor", dict := (none : Option Nat), data := Data.fields #[Value.str (Str.ofString "__weakref__") (384 : Nat), Value.ref (152 : Nat), Value.builtin "ExceptionGroup.__weakref__", Value.none]} : Obj))) ::
  (Prod.mk (α := Nat) (nat_lit 156) (({cls := Value.type "tuple", dict := (none : Option Nat), data := Data.seq #[Value.ref (152 : Nat)]} : Obj))) ::
  (Prod.mk (α := Nat) (nat_lit 163) (({cls := Value.type "tuple", dict := (none : Option Nat), data := Data.seq #[]} : Obj))) ::
  (Prod.mk (α := Nat) (nat_lit 165) (({cls := Value.type "tuple", dict := (none : Option Nat), data := Data.seq #[Value.str (Str.ofString "self") (406 : Nat), Value.str (Str.ofString "message") (407 : Nat)]} : Obj))) ::
  (Prod.mk (α := Nat) (nat_lit 166) (({cls := Value.type "tuple", dict := (none : Option Nat), data := Data.seq #[]} : Obj))) ::
  (Prod.mk (α := Nat) (nat_lit 168) (({cls := Value.type "code", dict := (none : Option Nat), data := Data.fields #[Value.str (Str.ofString "__init__") (403 : Nat), Value.str (Str.ofString "Refusal.__init__") (404 : Nat), Value.str (Str.ofString "/claim/cut.py") (405 : Nat), Value.int 152 (0 : Nat), Value.int 2 (0 : Nat), Value.int 0 (0 : Nat), Value.int 0 (0 : Nat), Value.int 3 (0 : Nat), Value.ref (163 : Nat), Value.bool true, Value.int 181 (0 : Nat), Value.ref (164 : Nat), Value.none, Value.ref (165 : Nat), Value.ref (166 : Nat), Value.ref (167 : Nat), Value.int 408 (0 : Nat), Value.int 152 (0 : Nat), Value.str (Str.ofString "/claim/cut.py") (409 : Nat)]} : Obj))) ::
  (Prod.mk (α := Nat) (nat_lit 169) (let_mvar% ?a169 := _; let_mvar% ?b169 := _; let_mvar% ?c169 := _; ({cls := Value.type "function", dict := (none : Option Nat), data := Data.func {name := Str.ofString "__init__", qualname := Str.ofString "Refusal.__init__", params := (?a169 : type_of% (hdLit ?a169 ?b169 ?c169 (rfl : _ = hdParts (hdCell (hdIn (hdCell hdBody 24)) 0)))), body := .stmts ?b169, scope := ?c169, annotations := (none : Option Nat), builtins := (0 : Nat), globals := (3 : Nat), closure := ([] : List (Str × Nat)), defaults := Value.none, kwdefaults := Value.none, pyModule := Value.str (Str.ofString "vectorcove.errors") (369 : Nat), code := Value.ref (168 : Nat)}} : Obj))) ::
  (Prod.mk (α := Nat) (nat_lit 170) (({cls := Value.type "tuple", dict := (none : Option Nat), data := Data.seq #[Value.str (Str.ofString "message") (411 : Nat)]} : Obj))) ::
  (Prod.mk (α := Nat) (nat_lit 171) (({cls := Value.type "dict", dict := (none : Option Nat), data := Data.dict #[{hash := PyData.keyHash P (Str.ofString "__module__"), key := Value.str (Str.ofString "__module__") (398 : Nat), val := Value.str (Str.ofString "vectorcove.errors") (369 : Nat)}, {hash := PyData.keyHash P (Str.ofString "__firstlineno__"), key := Value.str (Str.ofString "__firstlineno__") (402 : Nat), val := Value.int 150 (401 : Nat)}, {hash := PyData.keyHash P (Str.ofString "__init__"), key := Value.str (Str.ofString "__init__") (410 : Nat), val := Value.ref (169 : Nat)}, {hash := PyData.keyHash P (Str.ofString "__static_attributes__"), key := Value.str (Str.ofString "__static_attributes__") (412 : Nat), val := Value.ref (170 : Nat)}, {hash := PyData.keyHash P (Str.ofString "__doc__"), key := Value.str (Str.ofString "__doc__") (413 : Nat), val := Value.none}] 2} : Obj))) ::
  (Prod.mk (α := Nat) (nat_lit 172) (({cls := Value.type "type", dict := (none : Option Nat), data := Data.cls {name := Str.ofString "Refusal", bases := [Value.ref (152 : Nat)], mro := [Value.ref (172 : Nat), Value.ref (152 : Nat), Value.type "Exception", Value.type "BaseException", Value.type "object"], ns := (171 : Nat), qualname := Str.ofString "Refusal"}, slots := #[some (Value.ref (156 : Nat)), none, some (Value.str (Str.ofString "Refusal") (391 : Nat)), some (Value.str (Str.ofString "Refusal") (399 : Nat)), some (Value.builtin "Exception.__new__"), some (Value.bool true)]} : Obj))) ::
  (Prod.mk (α := Nat) (nat_lit 182) (({cls := Value.type "tuple", dict := (none : Option Nat), data := Data.seq #[Value.none]} : Obj))) ::
  (Prod.mk (α := Nat) (nat_lit 183) (({cls := Value.type "tuple", dict := (none : Option Nat), data := Data.seq #[]} : Obj))) ::
  (Prod.mk (α := Nat) (nat_lit 185) (({cls := Value.type "tuple", dict := (none : Option Nat), data := Data.seq #[Value.str (Str.ofString "self") (435 : Nat), Value.str (Str.ofString "kind") (436 : Nat), Value.str (Str.ofString "items") (437 : Nat), Value.str (Str.ofString "attrs") (438 : Nat)]} : Obj))) ::
  (Prod.mk (α := Nat) (nat_lit 186) (({cls := Value.type "tuple", dict := (none : Option Nat), data := Data.seq #[]} : Obj))) ::
  (Prod.mk (α := Nat) (nat_lit 188) (({cls := Value.type "code", dict := (none : Option Nat), data := Data.fields #[Value.str (Str.ofString "__init__") (432 : Nat), Value.str (Str.ofString "Vector.__init__") (433 : Nat), Value.str (Str.ofString "/claim/cut.py") (434 : Nat), Value.int 158 (0 : Nat), Value.int 4 (0 : Nat), Value.int 0 (0 : Nat), Value.int 0 (0 : Nat), Value.int 3 (0 : Nat), Value.ref (183 : Nat), Value.bool true, Value.int 181 (0 : Nat), Value.ref (184 : Nat), Value.none, Value.ref (185 : Nat), Value.ref (186 : Nat), Value.ref (187 : Nat), Value.int 439 (0 : Nat), Value.int 158 (0 : Nat), Value.str (Str.ofString "/claim/cut.py") (440 : Nat)]} : Obj))) ::
  (Prod.mk (α := Nat) (nat_lit 189) (let_mvar% ?a189 := _; let_mvar% ?b189 := _; let_mvar% ?c189 := _; ({cls := Value.type "function", dict := (none : Option Nat), data := Data.func {name := Str.ofString "__init__", qualname := Str.ofString "Vector.__init__", params := (?a189 : type_of% (hdLit ?a189 ?b189 ?c189 (rfl : _ = hdParts (hdCell (hdIn (hdCell hdBody 27)) 0)))), body := .stmts ?b189, scope := ?c189, annotations := (none : Option Nat), builtins := (0 : Nat), globals := (3 : Nat), closure := ([] : List (Str × Nat)), defaults := Value.ref (182 : Nat), kwdefaults := Value.none, pyModule := Value.str (Str.ofString "vectorcove.values") (416 : Nat), code := Value.ref (188 : Nat)}} : Obj))) ::
  (Prod.mk (α := Nat) (nat_lit 190) (({cls := Value.type "tuple", dict := (none : Option Nat), data := Data.seq #[]} : Obj))) ::
  (Prod.mk (α := Nat) (nat_lit 192) (({cls := Value.type "tuple", dict := (none : Option Nat), data := Data.seq #[Value.str (Str.ofString "self") (445 : Nat)]} : Obj))) ::
  (Prod.mk (α := Nat) (nat_lit 193) (({cls := Value.type "tuple", dict := (none : Option Nat), data := Data.seq #[]} : Obj))) ::
  (Prod.mk (α := Nat) (nat_lit 195) (({cls := Value.type "code", dict := (none : Option Nat), data := Data.fields #[Value.str (Str.ofString "copy") (442 : Nat), Value.str (Str.ofString "Vector.copy") (443 : Nat), Value.str (Str.ofString "/claim/cut.py") (444 : Nat), Value.int 165 (0 : Nat), Value.int 1 (0 : Nat), Value.int 0 (0 : Nat), Value.int 0 (0 : Nat), Value.int 3 (0 : Nat), Value.ref (190 : Nat), Value.bool true, Value.int 181 (0 : Nat), Value.ref (191 : Nat), Value.none, Value.ref (192 : Nat), Value.ref (193 : Nat), Value.ref (194 : Nat), Value.int 446 (0 : Nat), Value.int 165 (0 : Nat), Value.str (Str.ofString "/claim/cut.py") (447 : Nat)]} : Obj))) ::
  (Prod.mk (α := Nat) (nat_lit 196) (let_mvar% ?a196 := _; let_mvar% ?b196 := _; let_mvar% ?c196 := _; ({cls := Value.type "function", dict := (none : Option Nat), data := Data.func {name := Str.ofString "copy", qualname := Str.ofString "Vector.copy", params := (?a196 : type_of% (hdLit ?a196 ?b196 ?c196 (rfl : _ = hdParts (hdCell (hdIn (hdCell hdBody 27)) 1)))), body := .stmts ?b196, scope := ?c196, annotations := (none : Option Nat), builtins := (0 : Nat), globals := (3 : Nat), closure := ([] : List (Str × Nat)), defaults := Value.none, kwdefaults := Value.none, pyModule := Value.str (Str.ofString "vectorcove.values") (416 : Nat), code := Value.ref (195 : Nat)}} : Obj))) ::
  (Prod.mk (α := Nat) (nat_lit 197) (({cls := Value.type "tuple", dict := (none : Option Nat), data := Data.seq #[Value.str (Str.ofString "attrs") (449 : Nat), Value.str (Str.ofString "items") (450 : Nat), Value.str (Str.ofString "kind") (451 : Nat), Value.str (Str.ofString "loose") (452 : Nat), Value.str (Str.ofString "shared") (453 : Nat)]} : Obj))) ::
  (Prod.mk (α := Nat) (nat_lit 198) (({cls := Value.type "dict", dict := (none : Option Nat), data := Data.dict #[{hash := PyData.keyHash P (Str.ofString "__module__"), key := Value.str (Str.ofString "__module__") (427 : Nat), val := Value.str (Str.ofString "vectorcove.values") (416 : Nat)}, {hash := PyData.keyHash P (Str.ofString "__firstlineno__"), key := Value.str (Str.ofString "__firstlineno__") (431 : Nat), val := Value.int 156 (430 : Nat)}, {hash := PyData.keyHash P (Str.ofString "__init__"), key := Value.str (Str.ofString "__init__") (441 : Nat), val := Value.ref (189 : Nat)}, {hash := PyData.keyHash P (Str.ofString "copy"), key := Value.str (Str.ofString "copy") (448 : Nat), val := Value.ref (196 : Nat)}, {hash := PyData.keyHash P (Str.ofString "__static_attributes__"), key := Value.str (Str.ofString "__static_attributes__") (454 : Nat), val := Value.ref (197 : Nat)}, {hash := PyData.keyHash P (Str.ofString "__dict__"), key := Value.str (Str.ofString "__dict__") (456 : Nat), val := Value.ref (200 : Nat)}, {hash := PyData.keyHash P (Str.ofString "__weakref__"), key := Value.str (Str.ofString "__weakref__") (458 : Nat), val := Value.ref (201 : Nat)}, {hash := PyData.keyHash P (Str.ofString "__doc__"), key := Value.str (Str.ofString "__doc__") (459 : Nat), val := Value.none}] 4} : Obj))) ::
  (Prod.mk (α := Nat) (nat_lit 199) (({cls := Value.type "type", dict := (none : Option Nat), data := Data.cls {name := Str.ofString "Vector", bases := [Value.type "object"], mro := [Value.ref (199 : Nat), Value.type "object"], ns := (198 : Nat), qualname := Str.ofString "Vector"}, slots := #[none, none, some (Value.str (Str.ofString "Vector") (420 : Nat)), some (Value.str (Str.ofString "Vector") (428 : Nat)), some (Value.builtin "object.__new__"), some (Value.bool true)]} : Obj))) ::
  (Prod.mk (α := Nat) (nat_lit 200) (({cls := Value.type "getset_descriptor", dict := (none : Option Nat), data := Data.fields #[Value.str (Str.ofString "__dict__") (455 : Nat), Value.ref (199 : Nat), Value.builtin "function.__dict__", Value.builtin "function.__dict__#set"]} : Obj))) ::
  (Prod.mk (α := Nat) (nat_lit 201) (({cls := Value.type "getset_descriptor", dict := (none : Option Nat), data := Data.fields #[Value.str (Str.ofString "__weakref__") (457 : Nat), Value.ref (199 : Nat), Value.builtin "ExceptionGroup.__weakref__", Value.none]} : Obj))) ::
  (Prod.mk (α := Nat) (nat_lit 204) (({cls := Value.type "tuple", dict := (none : Option Nat), data := Data.seq #[]} : Obj))) ::
  (Prod.mk (α := Nat) (nat_lit 206) (({cls := Value.type "tuple", dict := (none : Option Nat), data := Data.seq #[Value.str (Str.ofString "n") (465 : Nat)]} : Obj))) ::
  (Prod.mk (α := Nat) (nat_lit 207) (({cls := Value.type "tuple", dict := (none : Option Nat), data := Data.seq #[]} : Obj))) ::
  (Prod.mk (α := Nat) (nat_lit 209) (({cls := Value.type "code", dict := (none : Option Nat), data := Data.fields #[Value.str (Str.ofString "room") (462 : Nat), Value.str (Str.ofString "room") (463 : Nat), Value.str (Str.ofString "/claim/cut.py") (464 : Nat), Value.int 167 (0 : Nat), Value.int 1 (0 : Nat), Value.int 0 (0 : Nat), Value.int 0 (0 : Nat), Value.int 3 (0 : Nat), Value.ref (204 : Nat), Value.bool true, Value.int 181 (0 : Nat), Value.ref (205 : Nat), Value.none, Value.ref (206 : Nat), Value.ref (207 : Nat), Value.ref (208 : Nat), Value.int 466 (0 : Nat), Value.int 167 (0 : Nat), Value.str (Str.ofString "/claim/cut.py") (467 : Nat)]} : Obj))) ::
  (Prod.mk (α := Nat) (nat_lit 210) (let_mvar% ?a210 := _; let_mvar% ?b210 := _; let_mvar% ?c210 := _; ({cls := Value.type "function", dict := (none : Option Nat), data := Data.func {name := Str.ofString "room", qualname := Str.ofString "room", params := (?a210 : type_of% (hdLit ?a210 ?b210 ?c210 (rfl : _ = hdParts (hdCell hdBody 28)))), body := .stmts ?b210, scope := ?c210, annotations := (none : Option Nat), builtins := (0 : Nat), globals := (3 : Nat), closure := ([] : List (Str × Nat)), defaults := Value.none, kwdefaults := Value.none, pyModule := Value.str (Str.ofString "vectorcove.values") (416 : Nat), code := Value.ref (209 : Nat)}} : Obj))) ::
  (Prod.mk (α := Nat) (nat_lit 211) (({cls := Value.type "tuple", dict := (none : Option Nat), data := Data.seq #[]} : Obj))) ::
  (Prod.mk (α := Nat) (nat_lit 213) (({cls := Value.type "tuple", dict := (none : Option Nat), data := Data.seq #[Value.str (Str.ofString "v") (472 : Nat), Value.str (Str.ofString "kind") (473 : Nat)]} : Obj))) ::
  (Prod.mk (α := Nat) (nat_lit 214) (({cls := Value.type "tuple", dict := (none : Option Nat), data := Data.seq #[]} : Obj))) ::
  (Prod.mk (α := Nat) (nat_lit 216) (({cls := Value.type "code", dict := (none : Option Nat), data := Data.fields #[Value.str (Str.ofString "length") (469 : Nat), Value.str (Str.ofString "length") (470 : Nat), Value.str (Str.ofString "/claim/cut.py") (471 : Nat), Value.int 171 (0 : Nat), Value.int 1 (0 : Nat), Value.int 0 (0 : Nat), Value.int 0 (0 : Nat), Value.int 3 (0 : Nat), Value.ref (211 : Nat), Value.bool true, Value.int 181 (0 : Nat), Value.ref (212 : Nat), Value.none, Value.ref (213 : Nat), Value.ref (214 : Nat), Value.ref (215 : Nat), Value.int 474 (0 : Nat), Value.int 171 (0 : Nat), Value.str (Str.ofString "/claim/cut.py") (475 : Nat)]} : Obj))) ::
  (Prod.mk (α := Nat) (nat_lit 217) (let_mvar% ?a217 := _; let_mvar% ?b217 := _; let_mvar% ?c217 := _; ({cls := Value.type "function", dict := (none : Option Nat), data := Data.func {name := Str.ofString "length", qualname := Str.ofString "length", params := (?a217 : type_of% (hdLit ?a217 ?b217 ?c217 (rfl : _ = hdParts (hdCell hdBody 29)))), body := .stmts ?b217, scope := ?c217, annotations := (none : Option Nat), builtins := (0 : Nat), globals := (3 : Nat), closure := ([] : List (Str × Nat)), defaults := Value.none, kwdefaults := Value.none, pyModule := Value.str (Str.ofString "vectorcove.values") (416 : Nat), code := Value.ref (216 : Nat)}} : Obj))) ::
  (Prod.mk (α := Nat) (nat_lit 218) (({cls := Value.type "tuple", dict := (none : Option Nat), data := Data.seq #[]} : Obj))) ::
  (Prod.mk (α := Nat) (nat_lit 220) (({cls := Value.type "tuple", dict := (none : Option Nat), data := Data.seq #[Value.str (Str.ofString "v") (480 : Nat)]} : Obj))) ::
  (Prod.mk (α := Nat) (nat_lit 221) (({cls := Value.type "tuple", dict := (none : Option Nat), data := Data.seq #[]} : Obj))) ::
  (Prod.mk (α := Nat) (nat_lit 223) (({cls := Value.type "code", dict := (none : Option Nat), data := Data.fields #[Value.str (Str.ofString "is_atomic") (477 : Nat), Value.str (Str.ofString "is_atomic") (478 : Nat), Value.str (Str.ofString "/claim/cut.py") (479 : Nat), Value.int 182 (0 : Nat), Value.int 1 (0 : Nat), Value.int 0 (0 : Nat), Value.int 0 (0 : Nat), Value.int 3 (0 : Nat), Value.ref (218 : Nat), Value.bool true, Value.int 181 (0 : Nat), Value.ref (219 : Nat), Value.none, Value.ref (220 : Nat), Value.ref (221 : Nat), Value.ref (222 : Nat), Value.int 481 (0 : Nat), Value.int 182 (0 : Nat), Value.str (Str.ofString "/claim/cut.py") (482 : Nat)]} : Obj))) ::
  (Prod.mk (α := Nat) (nat_lit 224) (let_mvar% ?a224 := _; let_mvar% ?b224 := _; let_mvar% ?c224 := _; ({cls := Value.type "function", dict := (none : Option Nat), data := Data.func {name := Str.ofString "is_atomic", qualname := Str.ofString "is_atomic", params := (?a224 : type_of% (hdLit ?a224 ?b224 ?c224 (rfl : _ = hdParts (hdCell hdBody 30)))), body := .stmts ?b224, scope := ?c224, annotations := (none : Option Nat), builtins := (0 : Nat), globals := (3 : Nat), closure := ([] : List (Str × Nat)), defaults := Value.none, kwdefaults := Value.none, pyModule := Value.str (Str.ofString "vectorcove.values") (416 : Nat), code := Value.ref (223 : Nat)}} : Obj))) ::
  (Prod.mk (α := Nat) (nat_lit 225) (({cls := Value.type "tuple", dict := (none : Option Nat), data := Data.seq #[]} : Obj))) ::
  (Prod.mk (α := Nat) (nat_lit 227) (({cls := Value.type "tuple", dict := (none : Option Nat), data := Data.seq #[Value.str (Str.ofString "total") (491 : Nat), Value.str (Str.ofString "text") (492 : Nat)]} : Obj))) ::
  (Prod.mk (α := Nat) (nat_lit 228) (({cls := Value.type "tuple", dict := (none : Option Nat), data := Data.seq #[]} : Obj))) ::
  (Prod.mk (α := Nat) (nat_lit 230) (({cls := Value.type "code", dict := (none : Option Nat), data := Data.fields #[Value.str (Str.ofString "grown_text") (488 : Nat), Value.str (Str.ofString "grown_text") (489 : Nat), Value.str (Str.ofString "/claim/cut.py") (490 : Nat), Value.int 186 (0 : Nat), Value.int 2 (0 : Nat), Value.int 0 (0 : Nat), Value.int 0 (0 : Nat), Value.int 3 (0 : Nat), Value.ref (225 : Nat), Value.bool true, Value.int 181 (0 : Nat), Value.ref (226 : Nat), Value.none, Value.ref (227 : Nat), Value.ref (228 : Nat), Value.ref (229 : Nat), Value.int 493 (0 : Nat), Value.int 186 (0 : Nat), Value.str (Str.ofString "/claim/cut.py") (494 : Nat)]} : Obj))) ::
  (Prod.mk (α := Nat) (nat_lit 231) (let_mvar% ?a231 := _; let_mvar% ?b231 := _; let_mvar% ?c231 := _; ({cls := Value.type "function", dict := (none : Option Nat), data := Data.func {name := Str.ofString "grown_text", qualname := Str.ofString "grown_text", params := (?a231 : type_of% (hdLit ?a231 ?b231 ?c231 (rfl : _ = hdParts (hdCell hdBody 33)))), body := .stmts ?b231, scope := ?c231, annotations := (none : Option Nat), builtins := (0 : Nat), globals := (3 : Nat), closure := ([] : List (Str × Nat)), defaults := Value.none, kwdefaults := Value.none, pyModule := Value.str (Str.ofString "vectorcove.texts") (484 : Nat), code := Value.ref (230 : Nat)}} : Obj))) ::
  (Prod.mk (α := Nat) (nat_lit 232) (({cls := Value.type "tuple", dict := (none : Option Nat), data := Data.seq #[]} : Obj))) ::
  (Prod.mk (α := Nat) (nat_lit 234) (({cls := Value.type "tuple", dict := (none : Option Nat), data := Data.seq #[Value.str (Str.ofString "char") (501 : Nat), Value.str (Str.ofString "quote") (502 : Nat), Value.str (Str.ofString "code") (503 : Nat)]} : Obj))) ::
  (Prod.mk (α := Nat) (nat_lit 235) (({cls := Value.type "tuple", dict := (none : Option Nat), data := Data.seq #[]} : Obj))) ::
  (Prod.mk (α := Nat) (nat_lit 237) (({cls := Value.type "code", dict := (none : Option Nat), data := Data.fields #[Value.str (Str.ofString "escaped_char") (498 : Nat), Value.str (Str.ofString "escaped_char") (499 : Nat), Value.str (Str.ofString "/claim/cut.py") (500 : Nat), Value.int 192 (0 : Nat), Value.int 2 (0 : Nat), Value.int 0 (0 : Nat), Value.int 0 (0 : Nat), Value.int 3 (0 : Nat), Value.ref (232 : Nat), Value.bool true, Value.int 181 (0 : Nat), Value.ref (233 : Nat), Value.none, Value.ref (234 : Nat), Value.ref (235 : Nat), Value.ref (236 : Nat), Value.int 504 (0 : Nat), Value.int 192 (0 : Nat), Value.str (Str.ofString "/claim/cut.py") (505 : Nat)]} : Obj))) ::
  (Prod.mk (α := Nat) (nat_lit 238) (let_mvar% ?a238 := _; let_mvar% ?b238 := _; let_mvar% ?c238 := _; ({cls := Value.type "function", dict := (none : Option Nat), data := Data.func {name := Str.ofString "escaped_char", qualname := Str.ofString "escaped_char", params := (?a238 : type_of% (hdLit ?a238 ?b238 ?c238 (rfl : _ = hdParts (hdCell hdBody 35)))), body := .stmts ?b238, scope := ?c238, annotations := (none : Option Nat), builtins := (0 : Nat), globals := (3 : Nat), closure := ([] : List (Str × Nat)), defaults := Value.none, kwdefaults := Value.none, pyModule := Value.str (Str.ofString "vectorcove.format") (496 : Nat), code := Value.ref (237 : Nat)}} : Obj))) ::
  (Prod.mk (α := Nat) (nat_lit 239) (({cls := Value.type "tuple", dict := (none : Option Nat), data := Data.seq #[]} : Obj))) ::
  (Prod.mk (α := Nat) (nat_lit 242) (({cls := Value.type "code", dict := (none : Option Nat), data := Data.fields #[Value.str (Str.ofString "encode_text") (507 : Nat), Value.str (Str.ofString "encode_text") (508 : Nat), Value.str (Str.ofString "/claim/cut.py") (509 : Nat), Value.int 203 (0 : Nat), Value.int 2 (0 : Nat), Value.int 0 (0 : Nat), Value.int 0 (0 : Nat), Value.int 3 (0 : Nat), Value.ref (239 : Nat), Value.bool true, Value.int 181 (0 : Nat), Value.ref (240 : Nat), Value.none, Value.none, Value.none, Value.ref (241 : Nat), Value.int 510 (0 : Nat), Value.int 203 (0 : Nat), Value.str (Str.ofString "/claim/cut.py") (511 : Nat)]} : Obj))) ::
  (Prod.mk (α := Nat) (nat_lit 243) (let_mvar% ?a243 := _; let_mvar% ?b243 := _; let_mvar% ?c243 := _; ({cls := Value.type "function", dict := (none : Option Nat), data := Data.func {name := Str.ofString "encode_text", qualname := Str.ofString "encode_text", params := (?a243 : type_of% (hdLit ?a243 ?b243 ?c243 (rfl : _ = hdParts (hdCell hdBody 36)))), body := .stmts ?b243, scope := ?c243, annotations := (none : Option Nat), builtins := (0 : Nat), globals := (3 : Nat), closure := ([] : List (Str × Nat)), defaults := Value.none, kwdefaults := Value.none, pyModule := Value.str (Str.ofString "vectorcove.format") (496 : Nat), code := Value.ref (242 : Nat)}} : Obj))) ::
  (Prod.mk (α := Nat) (nat_lit 244) (({cls := Value.type "tuple", dict := (none : Option Nat), data := Data.seq #[]} : Obj))) ::
  (Prod.mk (α := Nat) (nat_lit 246) (({cls := Value.type "tuple", dict := (none : Option Nat), data := Data.seq #[Value.str (Str.ofString "item") (516 : Nat)]} : Obj))) ::
  (Prod.mk (α := Nat) (nat_lit 247) (({cls := Value.type "tuple", dict := (none : Option Nat), data := Data.seq #[]} : Obj))) ::
  (Prod.mk (α := Nat) (nat_lit 249) (({cls := Value.type "code", dict := (none : Option Nat), data := Data.fields #[Value.str (Str.ofString "logical_text") (513 : Nat), Value.str (Str.ofString "logical_text") (514 : Nat), Value.str (Str.ofString "/claim/cut.py") (515 : Nat), Value.int 212 (0 : Nat), Value.int 1 (0 : Nat), Value.int 0 (0 : Nat), Value.int 0 (0 : Nat), Value.int 3 (0 : Nat), Value.ref (244 : Nat), Value.bool true, Value.int 181 (0 : Nat), Value.ref (245 : Nat), Value.none, Value.ref (246 : Nat), Value.ref (247 : Nat), Value.ref (248 : Nat), Value.int 517 (0 : Nat), Value.int 212 (0 : Nat), Value.str (Str.ofString "/claim/cut.py") (518 : Nat)]} : Obj))) ::
  (Prod.mk (α := Nat) (nat_lit 250) (let_mvar% ?a250 := _; let_mvar% ?b250 := _; let_mvar% ?c250 := _; ({cls := Value.type "function", dict := (none : Option Nat), data := Data.func {name := Str.ofString "logical_text", qualname := Str.ofString "logical_text", params := (?a250 : type_of% (hdLit ?a250 ?b250 ?c250 (rfl : _ = hdParts (hdCell hdBody 37)))), body := .stmts ?b250, scope := ?c250, annotations := (none : Option Nat), builtins := (0 : Nat), globals := (3 : Nat), closure := ([] : List (Str × Nat)), defaults := Value.none, kwdefaults := Value.none, pyModule := Value.str (Str.ofString "vectorcove.format") (496 : Nat), code := Value.ref (249 : Nat)}} : Obj))) ::
  (Prod.mk (α := Nat) (nat_lit 251) (({cls := Value.type "tuple", dict := (none : Option Nat), data := Data.seq #[]} : Obj))) ::
  (Prod.mk (α := Nat) (nat_lit 253) (({cls := Value.type "tuple", dict := (none : Option Nat), data := Data.seq #[Value.str (Str.ofString "item") (523 : Nat)]} : Obj))) ::
  (Prod.mk (α := Nat) (nat_lit 254) (({cls := Value.type "tuple", dict := (none : Option Nat), data := Data.seq #[]} : Obj))) ::
  (Prod.mk (α := Nat) (nat_lit 256) (({cls := Value.type "code", dict := (none : Option Nat), data := Data.fields #[Value.str (Str.ofString "integer_text") (520 : Nat), Value.str (Str.ofString "integer_text") (521 : Nat), Value.str (Str.ofString "/claim/cut.py") (522 : Nat), Value.int 216 (0 : Nat), Value.int 1 (0 : Nat), Value.int 0 (0 : Nat), Value.int 0 (0 : Nat), Value.int 3 (0 : Nat), Value.ref (251 : Nat), Value.bool true, Value.int 181 (0 : Nat), Value.ref (252 : Nat), Value.none, Value.ref (253 : Nat), Value.ref (254 : Nat), Value.ref (255 : Nat), Value.int 524 (0 : Nat), Value.int 216 (0 : Nat), Value.str (Str.ofString "/claim/cut.py") (525 : Nat)]} : Obj))) ::
  (Prod.mk (α := Nat) (nat_lit 257) (let_mvar% ?a257 := _; let_mvar% ?b257 := _; let_mvar% ?c257 := _; ({cls := Value.type "function", dict := (none : Option Nat), data := Data.func {name := Str.ofString "integer_text", qualname := Str.ofString "integer_text", params := (?a257 : type_of% (hdLit ?a257 ?b257 ?c257 (rfl : _ = hdParts (hdCell hdBody 38)))), body := .stmts ?b257, scope := ?c257, annotations := (none : Option Nat), builtins := (0 : Nat), globals := (3 : Nat), closure := ([] : List (Str × Nat)), defaults := Value.none, kwdefaults := Value.none, pyModule := Value.str (Str.ofString "vectorcove.format") (496 : Nat), code := Value.ref (256 : Nat)}} : Obj))) ::
  (Prod.mk (α := Nat) (nat_lit 258) (({cls := Value.type "tuple", dict := (none : Option Nat), data := Data.seq #[Value.int 7 (527 : Nat), Value.bool false]} : Obj))) ::
  (Prod.mk (α := Nat) (nat_lit 259) (({cls := Value.type "tuple", dict := (none : Option Nat), data := Data.seq #[]} : Obj))) ::
  (Prod.mk (α := Nat) (nat_lit 261) (({cls := Value.type "tuple", dict := (none : Option Nat), data := Data.seq #[Value.str (Str.ofString "kind") (531 : Nat), Value.str (Str.ofString "item") (532 : Nat), Value.str (Str.ofString "digits") (533 : Nat), Value.str (Str.ofString "quote") (534 : Nat)]} : Obj))) ::
  (Prod.mk (α := Nat) (nat_lit 262) (({cls := Value.type "tuple", dict := (none : Option Nat), data := Data.seq #[]} : Obj))) ::
  (Prod.mk (α := Nat) (nat_lit 264) (({cls := Value.type "code", dict := (none : Option Nat), data := Data.fields #[Value.str (Str.ofString "format_item") (528 : Nat), Value.str (Str.ofString "format_item") (529 : Nat), Value.str (Str.ofString "/claim/cut.py") (530 : Nat), Value.int 220 (0 : Nat), Value.int 4 (0 : Nat), Value.int 0 (0 : Nat), Value.int 0 (0 : Nat), Value.int 3 (0 : Nat), Value.ref (259 : Nat), Value.bool true, Value.int 181 (0 : Nat), Value.ref (260 : Nat), Value.none, Value.ref (261 : Nat), Value.ref (262 : Nat), Value.ref (263 : Nat), Value.int 535 (0 : Nat), Value.int 220 (0 : Nat), Value.str (Str.ofString "/claim/cut.py") (536 : Nat)]} : Obj))) ::
  (Prod.mk (α := Nat) (nat_lit 265) (let_mvar% ?a265 := _; let_mvar% ?b265 := _; let_mvar% ?c265 := _; ({cls := Value.type "function", dict := (none : Option Nat), data := Data.func {name := Str.ofString "format_item", qualname := Str.ofString "format_item", params := (?a265 : type_of% (hdLit ?a265 ?b265 ?c265 (rfl : _ = hdParts (hdCell hdBody 39)))), body := .stmts ?b265, scope := ?c265, annotations := (none : Option Nat), builtins := (0 : Nat), globals := (3 : Nat), closure := ([] : List (Str × Nat)), defaults := Value.ref (258 : Nat), kwdefaults := Value.none, pyModule := Value.str (Str.ofString "vectorcove.format") (496 : Nat), code := Value.ref (264 : Nat)}} : Obj))) ::
  (Prod.mk (α := Nat) (nat_lit 266) (({cls := Value.type "tuple", dict := (none : Option Nat), data := Data.seq #[Value.int 7 (538 : Nat), Value.bool true]} : Obj))) ::
  (Prod.mk (α := Nat) (nat_lit 267) (({cls := Value.type "tuple", dict := (none : Option Nat), data := Data.seq #[]} : Obj))) ::
  (Prod.mk (α := Nat) (nat_lit 270) (({cls := Value.type "code", dict := (none : Option Nat), data := Data.fields #[Value.str (Str.ofString "item_texts") (539 : Nat), Value.str (Str.ofString "item_texts") (540 : Nat), Value.str (Str.ofString "/claim/cut.py") (541 : Nat), Value.int 228 (0 : Nat), Value.int 3 (0 : Nat), Value.int 0 (0 : Nat), Value.int 0 (0 : Nat), Value.int 3 (0 : Nat), Value.ref (267 : Nat), Value.bool true, Value.int 181 (0 : Nat), Value.ref (268 : Nat), Value.none, Value.none, Value.none, Value.ref (269 : Nat), Value.int 542 (0 : Nat), Value.int 228 (0 : Nat), Value.str (Str.ofString "/claim/cut.py") (543 : Nat)]} : Obj))) ::
  (Prod.mk (α := Nat) (nat_lit 271) (let_mvar% ?a271 := _; let_mvar% ?b271 := _; let_mvar% ?c271 := _; ({cls := Value.type "function", dict := (none : Option Nat), data := Data.func {name := Str.ofString "item_texts", qualname := Str.ofString "item_texts", params := (?a271 : type_of% (hdLit ?a271 ?b271 ?c271 (rfl : _ = hdParts (hdCell hdBody 40)))), body := .stmts ?b271, scope := ?c271, annotations := (none : Option Nat), builtins := (0 : Nat), globals := (3 : Nat), closure := ([] : List (Str × Nat)), defaults := Value.ref (266 : Nat), kwdefaults := Value.none, pyModule := Value.str (Str.ofString "vectorcove.format") (496 : Nat), code := Value.ref (270 : Nat)}} : Obj))) ::
  (Prod.mk (α := Nat) (nat_lit 272) (({cls := Value.type "tuple", dict := (none : Option Nat), data := Data.seq #[]} : Obj))) ::
  (Prod.mk (α := Nat) (nat_lit 274) (({cls := Value.type "tuple", dict := (none : Option Nat), data := Data.seq #[Value.str (Str.ofString "texts") (548 : Nat), Value.str (Str.ofString "found") (549 : Nat), Value.str (Str.ofString "one") (550 : Nat)]} : Obj))) ::
  (Prod.mk (α := Nat) (nat_lit 275) (({cls := Value.type "tuple", dict := (none : Option Nat), data := Data.seq #[]} : Obj))) ::
  (Prod.mk (α := Nat) (nat_lit 277) (({cls := Value.type "code", dict := (none : Option Nat), data := Data.fields #[Value.str (Str.ofString "widest") (545 : Nat), Value.str (Str.ofString "widest") (546 : Nat), Value.str (Str.ofString "/claim/cut.py") (547 : Nat), Value.int 236 (0 : Nat), Value.int 1 (0 : Nat), Value.int 0 (0 : Nat), Value.int 0 (0 : Nat), Value.int 3 (0 : Nat), Value.ref (272 : Nat), Value.bool true, Value.int 181 (0 : Nat), Value.ref (273 : Nat), Value.none, Value.ref (274 : Nat), Value.ref (275 : Nat), Value.ref (276 : Nat), Value.int 551 (0 : Nat), Value.int 236 (0 : Nat), Value.str (Str.ofString "/claim/cut.py") (552 : Nat)]} : Obj))) ::
  (Prod.mk (α := Nat) (nat_lit 278) (let_mvar% ?a278 := _; let_mvar% ?b278 := _; let_mvar% ?c278 := _; ({cls := Value.type "function", dict := (none : Option Nat), data := Data.func {name := Str.ofString "widest", qualname := Str.ofString "widest", params := (?a278 : type_of% (hdLit ?a278 ?b278 ?c278 (rfl : _ = hdParts (hdCell hdBody 41)))), body := .stmts ?b278, scope := ?c278, annotations := (none : Option Nat), builtins := (0 : Nat), globals := (3 : Nat), closure := ([] : List (Str × Nat)), defaults := Value.none, kwdefaults := Value.none, pyModule := Value.str (Str.ofString "vectorcove.format") (496 : Nat), code := Value.ref (277 : Nat)}} : Obj))) ::
  (Prod.mk (α := Nat) (nat_lit 279) (({cls := Value.type "tuple", dict := (none : Option Nat), data := Data.seq #[]} : Obj))) ::
  (Prod.mk (α := Nat) (nat_lit 281) (({cls := Value.type "tuple", dict := (none : Option Nat), data := Data.seq #[Value.str (Str.ofString "v") (557 : Nat)]} : Obj))) ::
  (Prod.mk (α := Nat) (nat_lit 282) (({cls := Value.type "tuple", dict := (none : Option Nat), data := Data.seq #[]} : Obj))) ::
  (Prod.mk (α := Nat) (nat_lit 284) (({cls := Value.type "code", dict := (none : Option Nat), data := Data.fields #[Value.str (Str.ofString "is_factor") (554 : Nat), Value.str (Str.ofString "is_factor") (555 : Nat), Value.str (Str.ofString "/claim/cut.py") (556 : Nat), Value.int 241 (0 : Nat), Value.int 1 (0 : Nat), Value.int 0 (0 : Nat), Value.int 0 (0 : Nat), Value.int 3 (0 : Nat), Value.ref (279 : Nat), Value.bool true, Value.int 181 (0 : Nat), Value.ref (280 : Nat), Value.none, Value.ref (281 : Nat), Value.ref (282 : Nat), Value.ref (283 : Nat), Value.int 558 (0 : Nat), Value.int 241 (0 : Nat), Value.str (Str.ofString "/claim/cut.py") (559 : Nat)]} : Obj))) ::
  (Prod.mk (α := Nat) (nat_lit 285) (let_mvar% ?a285 := _; let_mvar% ?b285 := _; let_mvar% ?c285 := _; ({cls := Value.type "function", dict := (none : Option Nat), data := Data.func {name := Str.ofString "is_factor", qualname := Str.ofString "is_factor", params := (?a285 : type_of% (hdLit ?a285 ?b285 ?c285 (rfl : _ = hdParts (hdCell hdBody 42)))), body := .stmts ?b285, scope := ?c285, annotations := (none : Option Nat), builtins := (0 : Nat), globals := (3 : Nat), closure := ([] : List (Str × Nat)), defaults := Value.none, kwdefaults := Value.none, pyModule := Value.str (Str.ofString "vectorcove.format") (496 : Nat), code := Value.ref (284 : Nat)}} : Obj))) ::
  (Prod.mk (α := Nat) (nat_lit 286) (({cls := Value.type "tuple", dict := (none : Option Nat), data := Data.seq #[]} : Obj))) ::
  (Prod.mk (α := Nat) (nat_lit 289) (({cls := Value.type "code", dict := (none : Option Nat), data := Data.fields #[Value.str (Str.ofString "level_texts") (561 : Nat), Value.str (Str.ofString "level_texts") (562 : Nat), Value.str (Str.ofString "/claim/cut.py") (563 : Nat), Value.int 245 (0 : Nat), Value.int 1 (0 : Nat), Value.int 0 (0 : Nat), Value.int 0 (0 : Nat), Value.int 3 (0 : Nat), Value.ref (286 : Nat), Value.bool true, Value.int 181 (0 : Nat), Value.ref (287 : Nat), Value.none, Value.none, Value.none, Value.ref (288 : Nat), Value.int 564 (0 : Nat), Value.int 245 (0 : Nat), Value.str (Str.ofString "/claim/cut.py") (565 : Nat)]} : Obj))) ::
  (Prod.mk (α := Nat) (nat_lit 290) (let_mvar% ?a290 := _; let_mvar% ?b290 := _; let_mvar% ?c290 := _; ({cls := Value.type "function", dict := (none : Option Nat), data := Data.func {name := Str.ofString "level_texts", qualname := Str.ofString "level_texts", params := (?a290 : type_of% (hdLit ?a290 ?b290 ?c290 (rfl : _ = hdParts (hdCell hdBody 43)))), body := .stmts ?b290, scope := ?c290, annotations := (none : Option Nat), builtins := (0 : Nat), globals := (3 : Nat), closure := ([] : List (Str × Nat)), defaults := Value.none, kwdefaults := Value.none, pyModule := Value.str (Str.ofString "vectorcove.format") (496 : Nat), code := Value.ref (289 : Nat)}} : Obj))) ::
  (Prod.mk (α := Nat) (nat_lit 291) (({cls := Value.type "tuple", dict := (none : Option Nat), data := Data.seq #[]} : Obj))) ::
  (Prod.mk (α := Nat) (nat_lit 293) (({cls := Value.type "tuple", dict := (none : Option Nat), data := Data.seq #[Value.str (Str.ofString "f") (570 : Nat), Value.str (Str.ofString "lacking") (571 : Nat), Value.str (Str.ofString "levels") (572 : Nat), Value.str (Str.ofString "texts") (573 : Nat), Value.str (Str.ofString "item") (574 : Nat), Value.str (Str.ofString "label") (575 : Nat)]} : Obj))) ::
  (Prod.mk (α := Nat) (nat_lit 294) (({cls := Value.type "tuple", dict := (none : Option Nat), data := Data.seq #[]} : Obj))) ::
  (Prod.mk (α := Nat) (nat_lit 296) (({cls := Value.type "code", dict := (none : Option Nat), data := Data.fields #[Value.str (Str.ofString "factor_labels") (567 : Nat), Value.str (Str.ofString "factor_labels") (568 : Nat), Value.str (Str.ofString "/claim/cut.py") (569 : Nat), Value.int 252 (0 : Nat), Value.int 2 (0 : Nat), Value.int 0 (0 : Nat), Value.int 0 (0 : Nat), Value.int 3 (0 : Nat), Value.ref (291 : Nat), Value.bool true, Value.int 181 (0 : Nat), Value.ref (292 : Nat), Value.none, Value.ref (293 : Nat), Value.ref (294 : Nat), Value.ref (295 : Nat), Value.int 576 (0 : Nat), Value.int 252 (0 : Nat), Value.str (Str.ofString "/claim/cut.py") (577 : Nat)]} : Obj))) ::
  (Prod.mk (α := Nat) (nat_lit 297) (let_mvar% ?a297 := _; let_mvar% ?b297 := _; let_mvar% ?c297 := _; ({cls := Value.type "function", dict := (none : Option Nat), data := Data.func {name := Str.ofString "factor_labels", qualname := Str.ofString "factor_labels", params := (?a297 : type_of% (hdLit ?a297 ?b297 ?c297 (rfl : _ = hdParts (hdCell hdBody 44)))), body := .stmts ?b297, scope := ?c297, annotations := (none : Option Nat), builtins := (0 : Nat), globals := (3 : Nat), closure := ([] : List (Str × Nat)), defaults := Value.none, kwdefaults := Value.none, pyModule := Value.str (Str.ofString "vectorcove.format") (496 : Nat), code := Value.ref (296 : Nat)}} : Obj))) ::
  (Prod.mk (α := Nat) (nat_lit 298) (({cls := Value.type "tuple", dict := (none : Option Nat), data := Data.seq #[]} : Obj))) ::
  (Prod.mk (α := Nat) (nat_lit 300) (({cls := Value.type "tuple", dict := (none : Option Nat), data := Data.seq #[Value.str (Str.ofString "v") (582 : Nat)]} : Obj))) ::
  (Prod.mk (α := Nat) (nat_lit 301) (({cls := Value.type "tuple", dict := (none : Option Nat), data := Data.seq #[]} : Obj))) ::
  (Prod.mk (α := Nat) (nat_lit 303) (({cls := Value.type "code", dict := (none : Option Nat), data := Data.fields #[Value.str (Str.ofString "short_kind") (579 : Nat), Value.str (Str.ofString "short_kind") (580 : Nat), Value.str (Str.ofString "/claim/cut.py") (581 : Nat), Value.int 261 (0 : Nat), Value.int 1 (0 : Nat), Value.int 0 (0 : Nat), Value.int 0 (0 : Nat), Value.int 3 (0 : Nat), Value.ref (298 : Nat), Value.bool true, Value.int 181 (0 : Nat), Value.ref (299 : Nat), Value.none, Value.ref (300 : Nat), Value.ref (301 : Nat), Value.ref (302 : Nat), Value.int 583 (0 : Nat), Value.int 261 (0 : Nat), Value.str (Str.ofString "/claim/cut.py") (584 : Nat)]} : Obj))) ::
  (Prod.mk (α := Nat) (nat_lit 304) (let_mvar% ?a304 := _; let_mvar% ?b304 := _; let_mvar% ?c304 := _; ({cls := Value.type "function", dict := (none : Option Nat), data := Data.func {name := Str.ofString "short_kind", qualname := Str.ofString "short_kind", params := (?a304 : type_of% (hdLit ?a304 ?b304 ?c304 (rfl : _ = hdParts (hdCell hdBody 45)))), body := .stmts ?b304, scope := ?c304, annotations := (none : Option Nat), builtins := (0 : Nat), globals := (3 : Nat), closure := ([] : List (Str × Nat)), defaults := Value.none, kwdefaults := Value.none, pyModule := Value.str (Str.ofString "vectorcove.format") (496 : Nat), code := Value.ref (303 : Nat)}} : Obj))) ::
  (Prod.mk (α := Nat) (nat_lit 305) (({cls := Value.type "tuple", dict := (none : Option Nat), data := Data.seq #[]} : Obj))) ::
  (Prod.mk (α := Nat) (nat_lit 307) (({cls := Value.type "tuple", dict := (none : Option Nat), data := Data.seq #[Value.str (Str.ofString "v") (589 : Nat)]} : Obj))) ::
  (Prod.mk (α := Nat) (nat_lit 308) (({cls := Value.type "tuple", dict := (none : Option Nat), data := Data.seq #[]} : Obj))) ::
  (Prod.mk (α := Nat) (nat_lit 310) (({cls := Value.type "code", dict := (none : Option Nat), data := Data.fields #[Value.str (Str.ofString "short_form") (586 : Nat), Value.str (Str.ofString "short_form") (587 : Nat), Value.str (Str.ofString "/claim/cut.py") (588 : Nat), Value.int 267 (0 : Nat), Value.int 1 (0 : Nat), Value.int 0 (0 : Nat), Value.int 0 (0 : Nat), Value.int 3 (0 : Nat), Value.ref (305 : Nat), Value.bool true, Value.int 181 (0 : Nat), Value.ref (306 : Nat), Value.none, Value.ref (307 : Nat), Value.ref (308 : Nat), Value.ref (309 : Nat), Value.int 590 (0 : Nat), Value.int 267 (0 : Nat), Value.str (Str.ofString "/claim/cut.py") (591 : Nat)]} : Obj))) ::
  (Prod.mk (α := Nat) (nat_lit 311) (let_mvar% ?a311 := _; let_mvar% ?b311 := _; let_mvar% ?c311 := _; ({cls := Value.type "function", dict := (none : Option Nat), data := Data.func {name := Str.ofString "short_form", qualname := Str.ofString "short_form", params := (?a311 : type_of% (hdLit ?a311 ?b311 ?c311 (rfl : _ = hdParts (hdCell hdBody 46)))), body := .stmts ?b311, scope := ?c311, annotations := (none : Option Nat), builtins := (0 : Nat), globals := (3 : Nat), closure := ([] : List (Str × Nat)), defaults := Value.none, kwdefaults := Value.none, pyModule := Value.str (Str.ofString "vectorcove.format") (496 : Nat), code := Value.ref (310 : Nat)}} : Obj))) ::
  (Prod.mk (α := Nat) (nat_lit 312) (({cls := Value.type "tuple", dict := (none : Option Nat), data := Data.seq #[]} : Obj))) ::
  (Prod.mk (α := Nat) (nat_lit 315) (({cls := Value.type "code", dict := (none : Option Nat), data := Data.fields #[Value.str (Str.ofString "format_list_items") (593 : Nat), Value.str (Str.ofString "format_list_items") (594 : Nat), Value.str (Str.ofString "/claim/cut.py") (595 : Nat), Value.int 281 (0 : Nat), Value.int 1 (0 : Nat), Value.int 0 (0 : Nat), Value.int 0 (0 : Nat), Value.int 3 (0 : Nat), Value.ref (312 : Nat), Value.bool true, Value.int 181 (0 : Nat), Value.ref (313 : Nat), Value.none, Value.none, Value.none, Value.ref (314 : Nat), Value.int 596 (0 : Nat), Value.int 281 (0 : Nat), Value.str (Str.ofString "/claim/cut.py") (597 : Nat)]} : Obj))) ::
  (Prod.mk (α := Nat) (nat_lit 316) (let_mvar% ?a316 := _; let_mvar% ?b316 := _; let_mvar% ?c316 := _; ({cls := Value.type "function", dict := (none : Option Nat), data := Data.func {name := Str.ofString "format_list_items", qualname := Str.ofString "format_list_items", params := (?a316 : type_of% (hdLit ?a316 ?b316 ?c316 (rfl : _ = hdParts (hdCell hdBody 47)))), body := .stmts ?b316, scope := ?c316, annotations := (none : Option Nat), builtins := (0 : Nat), globals := (3 : Nat), closure := ([] : List (Str × Nat)), defaults := Value.none, kwdefaults := Value.none, pyModule := Value.str (Str.ofString "vectorcove.format") (496 : Nat), code := Value.ref (315 : Nat)}} : Obj))) ::
  (Prod.mk (α := Nat) (nat_lit 324) (({cls := Value.type "tuple", dict := (none : Option Nat), data := Data.seq #[]} : Obj))) ::
  (Prod.mk (α := Nat) (nat_lit 326) (({cls := Value.type "tuple", dict := (none : Option Nat), data := Data.seq #[Value.str (Str.ofString "self") (622 : Nat), Value.str (Str.ofString "rows") (623 : Nat), Value.str (Str.ofString "columns") (624 : Nat)]} : Obj))) ::
  (Prod.mk (α := Nat) (nat_lit 327) (({cls := Value.type "tuple", dict := (none : Option Nat), data := Data.seq #[]} : Obj))) ::
  (Prod.mk (α := Nat) (nat_lit 329) (({cls := Value.type "code", dict := (none : Option Nat), data := Data.fields #[Value.str (Str.ofString "__init__") (619 : Nat), Value.str (Str.ofString "Layout.__init__") (620 : Nat), Value.str (Str.ofString "/claim/cut.py") (621 : Nat), Value.int 289 (0 : Nat), Value.int 3 (0 : Nat), Value.int 0 (0 : Nat), Value.int 0 (0 : Nat), Value.int 3 (0 : Nat), Value.ref (324 : Nat), Value.bool true, Value.int 181 (0 : Nat), Value.ref (325 : Nat), Value.none, Value.ref (326 : Nat), Value.ref (327 : Nat), Value.ref (328 : Nat), Value.int 625 (0 : Nat), Value.int 289 (0 : Nat), Value.str (Str.ofString "/claim/cut.py") (626 : Nat)]} : Obj))) ::
  (Prod.mk (α := Nat) (nat_lit 330) (let_mvar% ?a330 := _; let_mvar% ?b330 := _; let_mvar% ?c330 := _; ({cls := Value.type "function", dict := (none : Option Nat), data := Data.func {name := Str.ofString "__init__", qualname := Str.ofString "Layout.__init__", params := (?a330 : type_of% (hdLit ?a330 ?b330 ?c330 (rfl : _ = hdParts (hdCell (hdIn (hdCell hdBody 52)) 0)))), body := .stmts ?b330, scope := ?c330, annotations := (none : Option Nat), builtins := (0 : Nat), globals := (3 : Nat), closure := ([] : List (Str × Nat)), defaults := Value.none, kwdefaults := Value.none, pyModule := Value.str (Str.ofString "vectorcove.printmat") (601 : Nat), code := Value.ref (329 : Nat)}} : Obj))) ::
  (Prod.mk (α := Nat) (nat_lit 331) (({cls := Value.type "tuple", dict := (none : Option Nat), data := Data.seq #[Value.str (Str.ofString "column_names") (628 : Nat), Value.str (Str.ofString "column_title") (629 : Nat), Value.str (Str.ofString "columns") (630 : Nat), Value.str (Str.ofString "row_names") (631 : Nat), Value.str (Str.ofString "row_title") (632 : Nat), Value.str (Str.ofString "rows") (633 : Nat), Value.str (Str.ofString "to_left") (634 : Nat)]} : Obj))) ::
  (Prod.mk (α := Nat) (nat_lit 332) (({cls := Value.type "dict", dict := (none : Option Nat), data := Data.dict #[{hash := PyData.keyHash P (Str.ofString "__module__"), key := Value.str (Str.ofString "__module__") (614 : Nat), val := Value.str (Str.ofString "vectorcove.printmat") (601 : Nat)}, {hash := PyData.keyHash P (Str.ofString "__firstlineno__"), key := Value.str (Str.ofString "__firstlineno__") (618 : Nat), val := Value.int 287 (617 : Nat)}, {hash := PyData.keyHash P (Str.ofString "__init__"), key := Value.str (Str.ofString "__init__") (627 : Nat), val := Value.ref (330 : Nat)}, {hash := PyData.keyHash P (Str.ofString "__static_attributes__"), key := Value.str (Str.ofString "__static_attributes__") (635 : Nat), val := Value.ref (331 : Nat)}, {hash := PyData.keyHash P (Str.ofString "__dict__"), key := Value.str (Str.ofString "__dict__") (637 : Nat), val := Value.ref (334 : Nat)}, {hash := PyData.keyHash P (Str.ofString "__weakref__"), key := Value.str (Str.ofString "__weakref__") (639 : Nat), val := Value.ref (335 : Nat)}, {hash := PyData.keyHash P (Str.ofString "__doc__"), key := Value.str (Str.ofString "__doc__") (640 : Nat), val := Value.none}] 4} : Obj))) ::
  (Prod.mk (α := Nat) (nat_lit 333) (({cls := Value.type "type", dict := (none : Option Nat), data := Data.cls {name := Str.ofString "Layout", bases := [Value.type "object"], mro := [Value.ref (333 : Nat), Value.type "object"], ns := (332 : Nat), qualname := Str.ofString "Layout"}, slots := #[none, none, some (Value.str (Str.ofString "Layout") (607 : Nat)), some (Value.str (Str.ofString "Layout") (615 : Nat)), some (Value.builtin "object.__new__"), some (Value.bool true)]} : Obj))) ::
  (Prod.mk (α := Nat) (nat_lit 334) (({cls := Value.type "getset_descriptor", dict := (none : Option Nat), data := Data.fields #[Value.str (Str.ofString "__dict__") (636 : Nat), Value.ref (333 : Nat), Value.builtin "function.__dict__", Value.builtin "function.__dict__#set"]} : Obj))) ::
  (Prod.mk (α := Nat) (nat_lit 335) (({cls := Value.type "getset_descriptor", dict := (none : Option Nat), data := Data.fields #[Value.str (Str.ofString "__weakref__") (638 : Nat), Value.ref (333 : Nat), Value.builtin "ExceptionGroup.__weakref__", Value.none]} : Obj))) ::
  (Prod.mk (α := Nat) (nat_lit 338) (({cls := Value.type "tuple", dict := (none : Option Nat), data := Data.seq #[]} : Obj))) ::
  (Prod.mk (α := Nat) (nat_lit 341) (({cls := Value.type "code", dict := (none : Option Nat), data := Data.fields #[Value.str (Str.ofString "shown_names") (643 : Nat), Value.str (Str.ofString "shown_names") (644 : Nat), Value.str (Str.ofString "/claim/cut.py") (645 : Nat), Value.int 297 (0 : Nat), Value.int 1 (0 : Nat), Value.int 0 (0 : Nat), Value.int 0 (0 : Nat), Value.int 3 (0 : Nat), Value.ref (338 : Nat), Value.bool true, Value.int 181 (0 : Nat), Value.ref (339 : Nat), Value.none, Value.none, Value.none, Value.ref (340 : Nat), Value.int 646 (0 : Nat), Value.int 297 (0 : Nat), Value.str (Str.ofString "/claim/cut.py") (647 : Nat)]} : Obj))) ::
  (Prod.mk (α := Nat) (nat_lit 342) (let_mvar% ?a342 := _; let_mvar% ?b342 := _; let_mvar% ?c342 := _; ({cls := Value.type "function", dict := (none : Option Nat), data := Data.func {name := Str.ofString "shown_names", qualname := Str.ofString "shown_names", params := (?a342 : type_of% (hdLit ?a342 ?b342 ?c342 (rfl : _ = hdParts (hdCell hdBody 53)))), body := .stmts ?b342, scope := ?c342, annotations := (none : Option Nat), builtins := (0 : Nat), globals := (3 : Nat), closure := ([] : List (Str × Nat)), defaults := Value.none, kwdefaults := Value.none, pyModule := Value.str (Str.ofString "vectorcove.printmat") (601 : Nat), code := Value.ref (341 : Nat)}} : Obj))) ::
  (Prod.mk (α := Nat) (nat_lit 343) (({cls := Value.type "tuple", dict := (none : Option Nat), data := Data.seq #[]} : Obj))) ::
  (Prod.mk (α := Nat) (nat_lit 345) (({cls := Value.type "tuple", dict := (none : Option Nat), data := Data.seq #[Value.str (Str.ofString "layout") (652 : Nat), Value.str (Str.ofString "width") (653 : Nat)]} : Obj))) ::
  (Prod.mk (α := Nat) (nat_lit 346) (({cls := Value.type "tuple", dict := (none : Option Nat), data := Data.seq #[]} : Obj))) ::
  (Prod.mk (α := Nat) (nat_lit 348) (({cls := Value.type "code", dict := (none : Option Nat), data := Data.fields #[Value.str (Str.ofString "row_offset") (649 : Nat), Value.str (Str.ofString "row_offset") (650 : Nat), Value.str (Str.ofString "/claim/cut.py") (651 : Nat), Value.int 301 (0 : Nat), Value.int 1 (0 : Nat), Value.int 0 (0 : Nat), Value.int 0 (0 : Nat), Value.int 3 (0 : Nat), Value.ref (343 : Nat), Value.bool true, Value.int 181 (0 : Nat), Value.ref (344 : Nat), Value.none, Value.ref (345 : Nat), Value.ref (346 : Nat), Value.ref (347 : Nat), Value.int 654 (0 : Nat), Value.int 301 (0 : Nat), Value.str (Str.ofString "/claim/cut.py") (655 : Nat)]} : Obj))) ::
  (Prod.mk (α := Nat) (nat_lit 349) (let_mvar% ?a349 := _; let_mvar% ?b349 := _; let_mvar% ?c349 := _; ({cls := Value.type "function", dict := (none : Option Nat), data := Data.func {name := Str.ofString "row_offset", qualname := Str.ofString "row_offset", params := (?a349 : type_of% (hdLit ?a349 ?b349 ?c349 (rfl : _ = hdParts (hdCell hdBody 54)))), body := .stmts ?b349, scope := ?c349, annotations := (none : Option Nat), builtins := (0 : Nat), globals := (3 : Nat), closure := ([] : List (Str × Nat)), defaults := Value.none, kwdefaults := Value.none, pyModule := Value.str (Str.ofString "vectorcove.printmat") (601 : Nat), code := Value.ref (348 : Nat)}} : Obj))) ::
  (Prod.mk (α := Nat) (nat_lit 350) (({cls := Value.type "tuple", dict := (none : Option Nat), data := Data.seq #[]} : Obj))) ::
  (Prod.mk (α := Nat) (nat_lit 352) (({cls := Value.type "tuple", dict := (none : Option Nat), data := Data.seq #[Value.str (Str.ofString "layout") (660 : Nat)]} : Obj))) ::
  (Prod.mk (α := Nat) (nat_lit 353) (({cls := Value.type "tuple", dict := (none : Option Nat), data := Data.seq #[]} : Obj))) ::
  (Prod.mk (α := Nat) (nat_lit 355) (({cls := Value.type "code", dict := (none : Option Nat), data := Data.fields #[Value.str (Str.ofString "label_room") (657 : Nat), Value.str (Str.ofString "label_room") (658 : Nat), Value.str (Str.ofString "/claim/cut.py") (659 : Nat), Value.int 306 (0 : Nat), Value.int 1 (0 : Nat), Value.int 0 (0 : Nat), Value.int 0 (0 : Nat), Value.int 3 (0 : Nat), Value.ref (350 : Nat), Value.bool true, Value.int 181 (0 : Nat), Value.ref (351 : Nat), Value.none, Value.ref (352 : Nat), Value.ref (353 : Nat), Value.ref (354 : Nat), Value.int 661 (0 : Nat), Value.int 306 (0 : Nat), Value.str (Str.ofString "/claim/cut.py") (662 : Nat)]} : Obj))) ::
  (Prod.mk (α := Nat) (nat_lit 356) (let_mvar% ?a356 := _; let_mvar% ?b356 := _; let_mvar% ?c356 := _; ({cls := Value.type "function", dict := (none : Option Nat), data := Data.func {name := Str.ofString "label_room", qualname := Str.ofString "label_room", params := (?a356 : type_of% (hdLit ?a356 ?b356 ?c356 (rfl : _ = hdParts (hdCell hdBody 55)))), body := .stmts ?b356, scope := ?c356, annotations := (none : Option Nat), builtins := (0 : Nat), globals := (3 : Nat), closure := ([] : List (Str × Nat)), defaults := Value.none, kwdefaults := Value.none, pyModule := Value.str (Str.ofString "vectorcove.printmat") (601 : Nat), code := Value.ref (355 : Nat)}} : Obj))) ::
  (Prod.mk (α := Nat) (nat_lit 357) (({cls := Value.type "tuple", dict := (none : Option Nat), data := Data.seq #[]} : Obj))) ::
  (Prod.mk (α := Nat) (nat_lit 359) (({cls := Value.type "tuple", dict := (none : Option Nat), data := Data.seq #[Value.str (Str.ofString "layout") (667 : Nat), Value.str (Str.ofString "place") (668 : Nat), Value.str (Str.ofString "room") (669 : Nat), Value.str (Str.ofString "offset") (670 : Nat)]} : Obj))) ::
  (Prod.mk (α := Nat) (nat_lit 360) (({cls := Value.type "tuple", dict := (none : Option Nat), data := Data.seq #[]} : Obj))) ::
  (Prod.mk (α := Nat) (nat_lit 362) (({cls := Value.type "code", dict := (none : Option Nat), data := Data.fields #[Value.str (Str.ofString "row_label") (664 : Nat), Value.str (Str.ofString "row_label") (665 : Nat), Value.str (Str.ofString "/claim/cut.py") (666 : Nat), Value.int 310 (0 : Nat), Value.int 2 (0 : Nat), Value.int 0 (0 : Nat), Value.int 0 (0 : Nat), Value.int 3 (0 : Nat), Value.ref (357 : Nat), Value.bool true, Value.int 181 (0 : Nat), Value.ref (358 : Nat), Value.none, Value.ref (359 : Nat), Value.ref (360 : Nat), Value.ref (361 : Nat), Value.int 671 (0 : Nat), Value.int 310 (0 : Nat), Value.str (Str.ofString "/claim/cut.py") (672 : Nat)]} : Obj))) ::
  (Prod.mk (α := Nat) (nat_lit 363) (let_mvar% ?a363 := _; let_mvar% ?b363 := _; let_mvar% ?c363 := _; ({cls := Value.type "function", dict := (none : Option Nat), data := Data.func {name := Str.ofString "row_label", qualname := Str.ofString "row_label", params := (?a363 : type_of% (hdLit ?a363 ?b363 ?c363 (rfl : _ = hdParts (hdCell hdBody 56)))), body := .stmts ?b363, scope := ?c363, annotations := (none : Option Nat), builtins := (0 : Nat), globals := (3 : Nat), closure := ([] : List (Str × Nat)), defaults := Value.none, kwdefaults := Value.none, pyModule := Value.str (Str.ofString "vectorcove.printmat") (601 : Nat), code := Value.ref (362 : Nat)}} : Obj))) ::
  (Prod.mk (α := Nat) (nat_lit 364) (({cls := Value.type "tuple", dict := (none : Option Nat), data := Data.seq #[]} : Obj))) ::
  (Prod.mk (α := Nat) (nat_lit 366) (({cls := Value.type "tuple", dict := (none : Option Nat), data := Data.seq #[Value.str (Str.ofString "layout") (677 : Nat), Value.str (Str.ofString "place") (678 : Nat)]} : Obj))) ::
  (Prod.mk (α := Nat) (nat_lit 367) (({cls := Value.type "tuple", dict := (none : Option Nat), data := Data.seq #[]} : Obj))) ::
  (Prod.mk (α := Nat) (nat_lit 369) (({cls := Value.type "code", dict := (none : Option Nat), data := Data.fields #[Value.str (Str.ofString "column_head") (674 : Nat), Value.str (Str.ofString "column_head") (675 : Nat), Value.str (Str.ofString "/claim/cut.py") (676 : Nat), Value.int 316 (0 : Nat), Value.int 2 (0 : Nat), Value.int 0 (0 : Nat), Value.int 0 (0 : Nat), Value.int 3 (0 : Nat), Value.ref (364 : Nat), Value.bool true, Value.int 181 (0 : Nat), Value.ref (365 : Nat), Value.none, Value.ref (366 : Nat), Value.ref (367 : Nat), Value.ref (368 : Nat), Value.int 679 (0 : Nat), Value.int 316 (0 : Nat), Value.str (Str.ofString "/claim/cut.py") (680 : Nat)]} : Obj))) ::
  (Prod.mk (α := Nat) (nat_lit 370) (let_mvar% ?a370 := _; let_mvar% ?b370 := _; let_mvar% ?c370 := _; ({cls := Value.type "function", dict := (none : Option Nat), data := Data.func {name := Str.ofString "column_head", qualname := Str.ofString "column_head", params := (?a370 : type_of% (hdLit ?a370 ?b370 ?c370 (rfl : _ = hdParts (hdCell hdBody 57)))), body := .stmts ?b370, scope := ?c370, annotations := (none : Option Nat), builtins := (0 : Nat), globals := (3 : Nat), closure := ([] : List (Str × Nat)), defaults := Value.none, kwdefaults := Value.none, pyModule := Value.str (Str.ofString "vectorcove.printmat") (601 : Nat), code := Value.ref (369 : Nat)}} : Obj))) ::
  (Prod.mk (α := Nat) (nat_lit 371) (({cls := Value.type "tuple", dict := (none : Option Nat), data := Data.seq #[]} : Obj))) ::
  (Prod.mk (α := Nat) (nat_lit 373) (({cls := Value.type "tuple", dict := (none : Option Nat), data := Data.seq #[Value.str (Str.ofString "text") (685 : Nat), Value.str (Str.ofString "width") (686 : Nat), Value.str (Str.ofString "to_left") (687 : Nat)]} : Obj))) ::
  (Prod.mk (α := Nat) (nat_lit 374) (({cls := Value.type "tuple", dict := (none : Option Nat), data := Data.seq #[]} : Obj))) ::
  (Prod.mk (α := Nat) (nat_lit 376) (({cls := Value.type "code", dict := (none : Option Nat), data := Data.fields #[Value.str (Str.ofString "padded") (682 : Nat), Value.str (Str.ofString "padded") (683 : Nat), Value.str (Str.ofString "/claim/cut.py") (684 : Nat), Value.int 320 (0 : Nat), Value.int 3 (0 : Nat), Value.int 0 (0 : Nat), Value.int 0 (0 : Nat), Value.int 3 (0 : Nat), Value.ref (371 : Nat), Value.bool true, Value.int 181 (0 : Nat), Value.ref (372 : Nat), Value.none, Value.ref (373 : Nat), Value.ref (374 : Nat), Value.ref (375 : Nat), Value.int 688 (0 : Nat), Value.int 320 (0 : Nat), Value.str (Str.ofString "/claim/cut.py") (689 : Nat)]} : Obj))) ::
  (Prod.mk (α := Nat) (nat_lit 377) (let_mvar% ?a377 := _; let_mvar% ?b377 := _; let_mvar% ?c377 := _; ({cls := Value.type "function", dict := (none : Option Nat), data := Data.func {name := Str.ofString "padded", qualname := Str.ofString "padded", params := (?a377 : type_of% (hdLit ?a377 ?b377 ?c377 (rfl : _ = hdParts (hdCell hdBody 58)))), body := .stmts ?b377, scope := ?c377, annotations := (none : Option Nat), builtins := (0 : Nat), globals := (3 : Nat), closure := ([] : List (Str × Nat)), defaults := Value.none, kwdefaults := Value.none, pyModule := Value.str (Str.ofString "vectorcove.printmat") (601 : Nat), code := Value.ref (376 : Nat)}} : Obj))) ::
  (Prod.mk (α := Nat) (nat_lit 378) (({cls := Value.type "tuple", dict := (none : Option Nat), data := Data.seq #[]} : Obj))) ::
  (Prod.mk (α := Nat) (nat_lit 380) (({cls := Value.type "tuple", dict := (none : Option Nat), data := Data.seq #[Value.str (Str.ofString "layout") (694 : Nat), Value.str (Str.ofString "widths") (695 : Nat), Value.str (Str.ofString "begin") (696 : Nat), Value.str (Str.ofString "end") (697 : Nat), Value.str (Str.ofString "labels") (698 : Nat), Value.str (Str.ofString "rows") (699 : Nat), Value.str (Str.ofString "title") (700 : Nat), Value.str (Str.ofString "pieces") (701 : Nat), Value.str (Str.ofString "place") (702 : Nat), Value.str (Str.ofString "row") (703 : Nat)]} : Obj))) ::
  (Prod.mk (α := Nat) (nat_lit 381) (({cls := Value.type "tuple", dict := (none : Option Nat), data := Data.seq #[]} : Obj))) ::
  (Prod.mk (α := Nat) (nat_lit 383) (({cls := Value.type "code", dict := (none : Option Nat), data := Data.fields #[Value.str (Str.ofString "block_rows") (691 : Nat), Value.str (Str.ofString "block_rows") (692 : Nat), Value.str (Str.ofString "/claim/cut.py") (693 : Nat), Value.int 324 (0 : Nat), Value.int 4 (0 : Nat), Value.int 0 (0 : Nat), Value.int 0 (0 : Nat), Value.int 3 (0 : Nat), Value.ref (378 : Nat), Value.bool true, Value.int 181 (0 : Nat), Value.ref (379 : Nat), Value.none, Value.ref (380 : Nat), Value.ref (381 : Nat), Value.ref (382 : Nat), Value.int 704 (0 : Nat), Value.int 324 (0 : Nat), Value.str (Str.ofString "/claim/cut.py") (705 : Nat)]} : Obj))) ::
  (Prod.mk (α := Nat) (nat_lit 384) (let_mvar% ?a384 := _; let_mvar% ?b384 := _; let_mvar% ?c384 := _; ({cls := Value.type "function", dict := (none : Option Nat), data := Data.func {name := Str.ofString "block_rows", qualname := Str.ofString "block_rows", params := (?a384 : type_of% (hdLit ?a384 ?b384 ?c384 (rfl : _ = hdParts (hdCell hdBody 59)))), body := .stmts ?b384, scope := ?c384, annotations := (none : Option Nat), builtins := (0 : Nat), globals := (3 : Nat), closure := ([] : List (Str × Nat)), defaults := Value.none, kwdefaults := Value.none, pyModule := Value.str (Str.ofString "vectorcove.printmat") (601 : Nat), code := Value.ref (383 : Nat)}} : Obj))) ::
  (Prod.mk (α := Nat) (nat_lit 385) (({cls := Value.type "tuple", dict := (none : Option Nat), data := Data.seq #[]} : Obj))) ::
  (Prod.mk (α := Nat) (nat_lit 387) (({cls := Value.type "tuple", dict := (none : Option Nat), data := Data.seq #[Value.str (Str.ofString "layout") (710 : Nat), Value.str (Str.ofString "width") (711 : Nat), Value.str (Str.ofString "count") (712 : Nat), Value.str (Str.ofString "labels") (713 : Nat), Value.str (Str.ofString "widths") (714 : Nat), Value.str (Str.ofString "place") (715 : Nat), Value.str (Str.ofString "rows") (716 : Nat), Value.str (Str.ofString "begin") (717 : Nat), Value.str (Str.ofString "total") (718 : Nat), Value.str (Str.ofString "end") (719 : Nat)]} : Obj))) ::
  (Prod.mk (α := Nat) (nat_lit 388) (({cls := Value.type "tuple", dict := (none : Option Nat), data := Data.seq #[]} : Obj))) ::
  (Prod.mk (α := Nat) (nat_lit 390) (({cls := Value.type "code", dict := (none : Option Nat), data := Data.fields #[Value.str (Str.ofString "layout_rows") (707 : Nat), Value.str (Str.ofString "layout_rows") (708 : Nat), Value.str (Str.ofString "/claim/cut.py") (709 : Nat), Value.int 342 (0 : Nat), Value.int 2 (0 : Nat), Value.int 0 (0 : Nat), Value.int 0 (0 : Nat), Value.int 3 (0 : Nat), Value.ref (385 : Nat), Value.bool true, Value.int 181 (0 : Nat), Value.ref (386 : Nat), Value.none, Value.ref (387 : Nat), Value.ref (388 : Nat), Value.ref (389 : Nat), Value.int 720 (0 : Nat), Value.int 342 (0 : Nat), Value.str (Str.ofString "/claim/cut.py") (721 : Nat)]} : Obj))) ::
  (Prod.mk (α := Nat) (nat_lit 391) (let_mvar% ?a391 := _; let_mvar% ?b391 := _; let_mvar% ?c391 := _; ({cls := Value.type "function", dict := (none : Option Nat), data := Data.func {name := Str.ofString "layout_rows", qualname := Str.ofString "layout_rows", params := (?a391 : type_of% (hdLit ?a391 ?b391 ?c391 (rfl : _ = hdParts (hdCell hdBody 60)))), body := .stmts ?b391, scope := ?c391, annotations := (none : Option Nat), builtins := (0 : Nat), globals := (3 : Nat), closure := ([] : List (Str × Nat)), defaults := Value.none, kwdefaults := Value.none, pyModule := Value.str (Str.ofString "vectorcove.printmat") (601 : Nat), code := Value.ref (390 : Nat)}} : Obj))) ::
  (Prod.mk (α := Nat) (nat_lit 392) (({cls := Value.type "tuple", dict := (none : Option Nat), data := Data.seq #[]} : Obj))) ::
  (Prod.mk (α := Nat) (nat_lit 394) (({cls := Value.type "tuple", dict := (none : Option Nat), data := Data.seq #[Value.str (Str.ofString "column") (726 : Nat), Value.str (Str.ofString "digits") (727 : Nat)]} : Obj))) ::
  (Prod.mk (α := Nat) (nat_lit 395) (({cls := Value.type "tuple", dict := (none : Option Nat), data := Data.seq #[]} : Obj))) ::
  (Prod.mk (α := Nat) (nat_lit 397) (({cls := Value.type "code", dict := (none : Option Nat), data := Data.fields #[Value.str (Str.ofString "frame_cells") (723 : Nat), Value.str (Str.ofString "frame_cells") (724 : Nat), Value.str (Str.ofString "/claim/cut.py") (725 : Nat), Value.int 361 (0 : Nat), Value.int 2 (0 : Nat), Value.int 0 (0 : Nat), Value.int 0 (0 : Nat), Value.int 3 (0 : Nat), Value.ref (392 : Nat), Value.bool true, Value.int 181 (0 : Nat), Value.ref (393 : Nat), Value.none, Value.ref (394 : Nat), Value.ref (395 : Nat), Value.ref (396 : Nat), Value.int 728 (0 : Nat), Value.int 361 (0 : Nat), Value.str (Str.ofString "/claim/cut.py") (729 : Nat)]} : Obj))) ::
  (Prod.mk (α := Nat) (nat_lit 398) (let_mvar% ?a398 := _; let_mvar% ?b398 := _; let_mvar% ?c398 := _; ({cls := Value.type "function", dict := (none : Option Nat), data := Data.func {name := Str.ofString "frame_cells", qualname := Str.ofString "frame_cells", params := (?a398 : type_of% (hdLit ?a398 ?b398 ?c398 (rfl : _ = hdParts (hdCell hdBody 61)))), body := .stmts ?b398, scope := ?c398, annotations := (none : Option Nat), builtins := (0 : Nat), globals := (3 : Nat), closure := ([] : List (Str × Nat)), defaults := Value.none, kwdefaults := Value.none, pyModule := Value.str (Str.ofString "vectorcove.printmat") (601 : Nat), code := Value.ref (397 : Nat)}} : Obj))) ::
  (Prod.mk (α := Nat) (nat_lit 399) (({cls := Value.type "tuple", dict := (none : Option Nat), data := Data.seq #[]} : Obj))) ::
  (Prod.mk (α := Nat) (nat_lit 401) (({cls := Value.type "tuple", dict := (none : Option Nat), data := Data.seq #[Value.str (Str.ofString "column") (734 : Nat), Value.str (Str.ofString "name") (735 : Nat), Value.str (Str.ofString "digits") (736 : Nat), Value.str (Str.ofString "rows") (737 : Nat), Value.str (Str.ofString "dims") (738 : Nat), Value.str (Str.ofString "heads") (739 : Nat), Value.str (Str.ofString "found") (740 : Nat), Value.str (Str.ofString "place") (741 : Nat), Value.str (Str.ofString "part") (742 : Nat), Value.str (Str.ofString "head") (743 : Nat)]} : Obj))) ::
  (Prod.mk (α := Nat) (nat_lit 402) (({cls := Value.type "tuple", dict := (none : Option Nat), data := Data.seq #[]} : Obj))) ::
  (Prod.mk (α := Nat) (nat_lit 404) (({cls := Value.type "code", dict := (none : Option Nat), data := Data.fields #[Value.str (Str.ofString "frame_columns") (731 : Nat), Value.str (Str.ofString "frame_columns") (732 : Nat), Value.str (Str.ofString "/claim/cut.py") (733 : Nat), Value.int 369 (0 : Nat), Value.int 4 (0 : Nat), Value.int 0 (0 : Nat), Value.int 0 (0 : Nat), Value.int 3 (0 : Nat), Value.ref (399 : Nat), Value.bool true, Value.int 181 (0 : Nat), Value.ref (400 : Nat), Value.none, Value.ref (401 : Nat), Value.ref (402 : Nat), Value.ref (403 : Nat), Value.int 744 (0 : Nat), Value.int 369 (0 : Nat), Value.str (Str.ofString "/claim/cut.py") (745 : Nat)]} : Obj))) ::
  (Prod.mk (α := Nat) (nat_lit 405) (let_mvar% ?a405 := _; let_mvar% ?b405 := _; let_mvar% ?c405 := _; ({cls := Value.type "function", dict := (none : Option Nat), data := Data.func {name := Str.ofString "frame_columns", qualname := Str.ofString "frame_columns", params := (?a405 : type_of% (hdLit ?a405 ?b405 ?c405 (rfl : _ = hdParts (hdCell hdBody 62)))), body := .stmts ?b405, scope := ?c405, annotations := (none : Option Nat), builtins := (0 : Nat), globals := (3 : Nat), closure := ([] : List (Str × Nat)), defaults := Value.none, kwdefaults := Value.none, pyModule := Value.str (Str.ofString "vectorcove.printmat") (601 : Nat), code := Value.ref (404 : Nat)}} : Obj))) ::
  (Prod.mk (α := Nat) (nat_lit 406) (({cls := Value.type "tuple", dict := (none : Option Nat), data := Data.seq #[]} : Obj))) ::
  (Prod.mk (α := Nat) (nat_lit 408) (({cls := Value.type "tuple", dict := (none : Option Nat), data := Data.seq #[Value.str (Str.ofString "column") (750 : Nat), Value.str (Str.ofString "texts") (751 : Nat), Value.str (Str.ofString "rows") (752 : Nat), Value.str (Str.ofString "lacking") (753 : Nat)]} : Obj))) ::
  (Prod.mk (α := Nat) (nat_lit 409) (({cls := Value.type "tuple", dict := (none : Option Nat), data := Data.seq #[]} : Obj))) ::
  (Prod.mk (α := Nat) (nat_lit 411) (({cls := Value.type "code", dict := (none : Option Nat), data := Data.fields #[Value.str (Str.ofString "filled_cells") (747 : Nat), Value.str (Str.ofString "filled_cells") (748 : Nat), Value.str (Str.ofString "/claim/cut.py") (749 : Nat), Value.int 380 (0 : Nat), Value.int 3 (0 : Nat), Value.int 0 (0 : Nat), Value.int 0 (0 : Nat), Value.int 3 (0 : Nat), Value.ref (406 : Nat), Value.bool true, Value.int 181 (0 : Nat), Value.ref (407 : Nat), Value.none, Value.ref (408 : Nat), Value.ref (409 : Nat), Value.ref (410 : Nat), Value.int 754 (0 : Nat), Value.int 380 (0 : Nat), Value.str (Str.ofString "/claim/cut.py") (755 : Nat)]} : Obj))) ::
  (Prod.mk (α := Nat) (nat_lit 412) (let_mvar% ?a412 := _; let_mvar% ?b412 := _; let_mvar% ?c412 := _; ({cls := Value.type "function", dict := (none : Option Nat), data := Data.func {name := Str.ofString "filled_cells", qualname := Str.ofString "filled_cells", params := (?a412 : type_of% (hdLit ?a412 ?b412 ?c412 (rfl : _ = hdParts (hdCell hdBody 63)))), body := .stmts ?b412, scope := ?c412, annotations := (none : Option Nat), builtins := (0 : Nat), globals := (3 : Nat), closure := ([] : List (Str × Nat)), defaults := Value.none, kwdefaults := Value.none, pyModule := Value.str (Str.ofString "vectorcove.printmat") (601 : Nat), code := Value.ref (411 : Nat)}} : Obj))) ::
  (Prod.mk (α := Nat) (nat_lit 413) (({cls := Value.type "tuple", dict := (none : Option Nat), data := Data.seq #[]} : Obj))) ::
  (Prod.mk (α := Nat) (nat_lit 415) (({cls := Value.type "tuple", dict := (none : Option Nat), data := Data.seq #[Value.str (Str.ofString "df") (760 : Nat), Value.str (Str.ofString "names") (761 : Nat)]} : Obj))) ::
  (Prod.mk (α := Nat) (nat_lit 416) (({cls := Value.type "tuple", dict := (none : Option Nat), data := Data.seq #[]} : Obj))) ::
  (Prod.mk (α := Nat) (nat_lit 418) (({cls := Value.type "code", dict := (none : Option Nat), data := Data.fields #[Value.str (Str.ofString "frame_labels") (757 : Nat), Value.str (Str.ofString "frame_labels") (758 : Nat), Value.str (Str.ofString "/claim/cut.py") (759 : Nat), Value.int 383 (0 : Nat), Value.int 1 (0 : Nat), Value.int 0 (0 : Nat), Value.int 0 (0 : Nat), Value.int 3 (0 : Nat), Value.ref (413 : Nat), Value.bool true, Value.int 181 (0 : Nat), Value.ref (414 : Nat), Value.none, Value.ref (415 : Nat), Value.ref (416 : Nat), Value.ref (417 : Nat), Value.int 762 (0 : Nat), Value.int 383 (0 : Nat), Value.str (Str.ofString "/claim/cut.py") (763 : Nat)]} : Obj))) ::
  (Prod.mk (α := Nat) (nat_lit 419) (let_mvar% ?a419 := _; let_mvar% ?b419 := _; let_mvar% ?c419 := _; ({cls := Value.type "function", dict := (none : Option Nat), data := Data.func {name := Str.ofString "frame_labels", qualname := Str.ofString "frame_labels", params := (?a419 : type_of% (hdLit ?a419 ?b419 ?c419 (rfl : _ = hdParts (hdCell hdBody 64)))), body := .stmts ?b419, scope := ?c419, annotations := (none : Option Nat), builtins := (0 : Nat), globals := (3 : Nat), closure := ([] : List (Str × Nat)), defaults := Value.none, kwdefaults := Value.none, pyModule := Value.str (Str.ofString "vectorcove.printmat") (601 : Nat), code := Value.ref (418 : Nat)}} : Obj))) ::
  (Prod.mk (α := Nat) (nat_lit 420) (({cls := Value.type "tuple", dict := (none : Option Nat), data := Data.seq #[Value.int 80 (599 : Nat), Value.int 7 (765 : Nat)]} : Obj))) ::
  (Prod.mk (α := Nat) (nat_lit 421) (({cls := Value.type "tuple", dict := (none : Option Nat), data := Data.seq #[]} : Obj))) ::
  (Prod.mk (α := Nat) (nat_lit 424) (({cls := Value.type "code", dict := (none : Option Nat), data := Data.fields #[Value.str (Str.ofString "print_frame") (766 : Nat), Value.str (Str.ofString "print_frame") (767 : Nat), Value.str (Str.ofString "/claim/cut.py") (768 : Nat), Value.int 390 (0 : Nat), Value.int 3 (0 : Nat), Value.int 0 (0 : Nat), Value.int 0 (0 : Nat), Value.int 3 (0 : Nat), Value.ref (421 : Nat), Value.bool true, Value.int 181 (0 : Nat), Value.ref (422 : Nat), Value.none, Value.none, Value.none, Value.ref (423 : Nat), Value.int 769 (0 : Nat), Value.int 390 (0 : Nat), Value.str (Str.ofString "/claim/cut.py") (770 : Nat)]} : Obj))) ::
  (Prod.mk (α := Nat) (nat_lit 425) (let_mvar% ?a425 := _; let_mvar% ?b425 := _; let_mvar% ?c425 := _; ({cls := Value.type "function", dict := (none : Option Nat), data := Data.func {name := Str.ofString "print_frame", qualname := Str.ofString "print_frame", params := (?a425 : type_of% (hdLit ?a425 ?b425 ?c425 (rfl : _ = hdParts (hdCell hdBody 65)))), body := .stmts ?b425, scope := ?c425, annotations := (none : Option Nat), builtins := (0 : Nat), globals := (3 : Nat), closure := ([] : List (Str × Nat)), defaults := Value.ref (420 : Nat), kwdefaults := Value.none, pyModule := Value.str (Str.ofString "vectorcove.printmat") (601 : Nat), code := Value.ref (424 : Nat)}} : Obj))) ::
  (Prod.mk (α := Nat) (nat_lit 426) (({cls := Value.type "tuple", dict := (none : Option Nat), data := Data.seq #[]} : Obj))) ::
  (Prod.mk (α := Nat) (nat_lit 428) (({cls := Value.type "tuple", dict := (none : Option Nat), data := Data.seq #[Value.str (Str.ofString "script") (777 : Nat), Value.str (Str.ofString "tree") (778 : Nat), Value.str (Str.ofString "one") (779 : Nat), Value.str (Str.ofString "left") (780 : Nat), Value.str (Str.ofString "hop") (781 : Nat)]} : Obj))) ::
  (Prod.mk (α := Nat) (nat_lit 429) (({cls := Value.type "tuple", dict := (none : Option Nat), data := Data.seq #[]} : Obj))) ::
  (Prod.mk (α := Nat) (nat_lit 431) (({cls := Value.type "code", dict := (none : Option Nat), data := Data.fields #[Value.str (Str.ofString "_law_plums") (774 : Nat), Value.str (Str.ofString "_law_plums") (775 : Nat), Value.str (Str.ofString "/claim/cut.py") (776 : Nat), Value.int 408 (0 : Nat), Value.int 1 (0 : Nat), Value.int 0 (0 : Nat), Value.int 0 (0 : Nat), Value.int 3 (0 : Nat), Value.ref (426 : Nat), Value.bool true, Value.int 181 (0 : Nat), Value.ref (427 : Nat), Value.none, Value.ref (428 : Nat), Value.ref (429 : Nat), Value.ref (430 : Nat), Value.int 782 (0 : Nat), Value.int 408 (0 : Nat), Value.str (Str.ofString "/claim/cut.py") (783 : Nat)]} : Obj))) ::
  (Prod.mk (α := Nat) (nat_lit 432) (let_mvar% ?a432 := _; let_mvar% ?b432 := _; let_mvar% ?c432 := _; ({cls := Value.type "function", dict := (none : Option Nat), data := Data.func {name := Str.ofString "_law_plums", qualname := Str.ofString "_law_plums", params := (?a432 : type_of% (hdLit ?a432 ?b432 ?c432 (rfl : _ = hdParts (hdCell hdBody 67)))), body := .stmts ?b432, scope := ?c432, annotations := (none : Option Nat), builtins := (0 : Nat), globals := (3 : Nat), closure := ([] : List (Str × Nat)), defaults := Value.none, kwdefaults := Value.none, pyModule := Value.str (Str.ofString "law_qd0173_01") (772 : Nat), code := Value.ref (431 : Nat)}} : Obj))) ::
  (Prod.mk (α := Nat) (nat_lit 433) (({cls := Value.type "tuple", dict := (none : Option Nat), data := Data.seq #[]} : Obj))) ::
  (Prod.mk (α := Nat) (nat_lit 435) (({cls := Value.type "tuple", dict := (none : Option Nat), data := Data.seq #[Value.str (Str.ofString "tree") (788 : Nat), Value.str (Str.ofString "most") (789 : Nat)]} : Obj))) ::
  (Prod.mk (α := Nat) (nat_lit 436) (({cls := Value.type "tuple", dict := (none : Option Nat), data := Data.seq #[]} : Obj))) ::
  (Prod.mk (α := Nat) (nat_lit 438) (({cls := Value.type "code", dict := (none : Option Nat), data := Data.fields #[Value.str (Str.ofString "_law_plum") (785 : Nat), Value.str (Str.ofString "_law_plum") (786 : Nat), Value.str (Str.ofString "/claim/cut.py") (787 : Nat), Value.int 418 (0 : Nat), Value.int 2 (0 : Nat), Value.int 0 (0 : Nat), Value.int 0 (0 : Nat), Value.int 3 (0 : Nat), Value.ref (433 : Nat), Value.bool true, Value.int 181 (0 : Nat), Value.ref (434 : Nat), Value.none, Value.ref (435 : Nat), Value.ref (436 : Nat), Value.ref (437 : Nat), Value.int 790 (0 : Nat), Value.int 418 (0 : Nat), Value.str (Str.ofString "/claim/cut.py") (791 : Nat)]} : Obj))) ::
  (Prod.mk (α := Nat) (nat_lit 439) (let_mvar% ?a439 := _; let_mvar% ?b439 := _; let_mvar% ?c439 := _; ({cls := Value.type "function", dict := (none : Option Nat), data := Data.func {name := Str.ofString "_law_plum", qualname := Str.ofString "_law_plum", params := (?a439 : type_of% (hdLit ?a439 ?b439 ?c439 (rfl : _ = hdParts (hdCell hdBody 68)))), body := .stmts ?b439, scope := ?c439, annotations := (none : Option Nat), builtins := (0 : Nat), globals := (3 : Nat), closure := ([] : List (Str × Nat)), defaults := Value.none, kwdefaults := Value.none, pyModule := Value.str (Str.ofString "law_qd0173_01") (772 : Nat), code := Value.ref (438 : Nat)}} : Obj))) ::
  (Prod.mk (α := Nat) (nat_lit 440) (({cls := Value.type "tuple", dict := (none : Option Nat), data := Data.seq #[]} : Obj))) ::
  (Prod.mk (α := Nat) (nat_lit 443) (({cls := Value.type "code", dict := (none : Option Nat), data := Data.fields #[Value.str (Str.ofString "_law_column") (793 : Nat), Value.str (Str.ofString "_law_column") (794 : Nat), Value.str (Str.ofString "/claim/cut.py") (795 : Nat), Value.int 420 (0 : Nat), Value.int 3 (0 : Nat), Value.int 0 (0 : Nat), Value.int 0 (0 : Nat), Value.int 3 (0 : Nat), Value.ref (440 : Nat), Value.bool true, Value.int 181 (0 : Nat), Value.ref (441 : Nat), Value.none, Value.none, Value.none, Value.ref (442 : Nat), Value.int 796 (0 : Nat), Value.int 420 (0 : Nat), Value.str (Str.ofString "/claim/cut.py") (797 : Nat)]} : Obj))) ::
  (Prod.mk (α := Nat) (nat_lit 444) (let_mvar% ?a444 := _; let_mvar% ?b444 := _; let_mvar% ?c444 := _; ({cls := Value.type "function", dict := (none : Option Nat), data := Data.func {name := Str.ofString "_law_column", qualname := Str.ofString "_law_column", params := (?a444 : type_of% (hdLit ?a444 ?b444 ?c444 (rfl : _ = hdParts (hdCell hdBody 69)))), body := .stmts ?b444, scope := ?c444, annotations := (none : Option Nat), builtins := (0 : Nat), globals := (3 : Nat), closure := ([] : List (Str × Nat)), defaults := Value.none, kwdefaults := Value.none, pyModule := Value.str (Str.ofString "law_qd0173_01") (772 : Nat), code := Value.ref (443 : Nat)}} : Obj))) ::
  (Prod.mk (α := Nat) (nat_lit 445) (({cls := Value.type "tuple", dict := (none : Option Nat), data := Data.seq #[]} : Obj))) ::
  (Prod.mk (α := Nat) (nat_lit 448) (({cls := Value.type "code", dict := (none : Option Nat), data := Data.fields #[Value.str (Str.ofString "law") (799 : Nat), Value.str (Str.ofString "law") (800 : Nat), Value.str (Str.ofString "/claim/cut.py") (801 : Nat), Value.int 437 (0 : Nat), Value.int 1 (0 : Nat), Value.int 0 (0 : Nat), Value.int 0 (0 : Nat), Value.int 3 (0 : Nat), Value.ref (445 : Nat), Value.bool true, Value.int 181 (0 : Nat), Value.ref (446 : Nat), Value.none, Value.none, Value.none, Value.ref (447 : Nat), Value.int 802 (0 : Nat), Value.int 437 (0 : Nat), Value.str (Str.ofString "/claim/cut.py") (803 : Nat)]} : Obj))) ::
  (Prod.mk (α := Nat) (nat_lit 449) (let_mvar% ?a449 := _; let_mvar% ?b449 := _; let_mvar% ?c449 := _; ({cls := Value.type "function", dict := (none : Option Nat), data := Data.func {name := Str.ofString "law", qualname := Str.ofString "law", params := (?a449 : type_of% (hdLit ?a449 ?b449 ?c449 (rfl : _ = hdParts (hdCell hdBody 70)))), body := .stmts ?b449, scope := ?c449, annotations := (none : Option Nat), builtins := (0 : Nat), globals := (3 : Nat), closure := ([] : List (Str × Nat)), defaults := Value.none, kwdefaults := Value.none, pyModule := Value.str (Str.ofString "law_qd0173_01") (772 : Nat), code := Value.ref (448 : Nat)}} : Obj))) ::
  [] : List (Nat × Obj))
abbrev hdPw : Program := PySem.Challenge.pw_qd0173_01
abbrev hdRow : RowW := PySem.Challenge.rw_qd0173_01.row.toRowW
noncomputable def hd.view_39 : Program := PySem.W.view hdPw [0, 2, 3, 4, 5, 7, 8, 10, 11, 12, 13, 14, 15, 16, 17, 18, 19, 20, 23, 24, 26, 27, 28, 29, 30, 32, 33, 35, 36, 37, 38, 41, 42, 43, 44, 45, 46, 47, 48, 50, 51, 52, 53, 54, 55, 56, 57, 58, 59, 60, 61, 62, 63, 64, 67, 68, 69, 70]
abbrev hdLoose : List Str := [Str.ofString "number_text", Str.ofString "format_item", Str.ofString "item_texts", Str.ofString "print_frame"]
def hdAds : List Addr := 2 :: 3 :: 15 :: 17 :: 18 :: 20 :: 21 :: 22 :: 24 :: 25 :: 27 :: 28 :: 29 :: 32 :: 33 :: 34 :: 36 :: 37 :: 39 :: 40 :: 41 :: 44 :: 45 :: 46 :: 48 :: 49 :: 51 :: 52 :: 53 :: 55 :: 56 :: 58 :: 59 :: 60 :: 62 :: 63 :: 65 :: 66 :: 67 :: 69 :: 70 :: 72 :: 73 :: 74 :: 76 :: 77 :: 79 :: 80 :: 81 :: 83 :: 84 :: 86 :: 87 :: 88 :: 90 :: 91 :: 93 :: 94 :: 95 :: 97 :: 98 :: 100 :: 101 :: 102 :: 104 :: 105 :: 107 :: 108 :: 109 :: 111 :: 112 :: 114 :: 115 :: 116 :: 118 :: 119 :: 121 :: 122 :: 123 :: 125 :: 126 :: 128 :: 129 :: 130 :: 133 :: 134 :: 135 :: 136 :: 138 :: 139 :: 141 :: 142 :: 143 :: 150 :: 151 :: 152 :: 153 :: 156 :: 163 :: 165 :: 166 :: 168 :: 169 :: 170 :: 171 :: 172 :: 182 :: 183 :: 185 :: 186 :: 188 :: 189 :: 190 :: 192 :: 193 :: 195 :: 196 :: 197 :: 198 :: 199 :: 200 :: 201 :: 204 :: 206 :: 207 :: 209 :: 210 :: 211 :: 213 :: 214 :: 216 :: 217 :: 218 :: 220 :: 221 :: 223 :: 224 :: 225 :: 227 :: 228 :: 230 :: 231 :: 232 :: 234 :: 235 :: 237 :: 238 :: 239 :: 242 :: 243 :: 244 :: 246 :: 247 :: 249 :: 250 :: 251 :: 253 :: 254 :: 256 :: 257 :: 258 :: 259 :: 261 :: 262 :: 264 :: 265 :: 266 :: 267 :: 270 :: 271 :: 272 :: 274 :: 275 :: 277 :: 278 :: 279 :: 281 :: 282 :: 284 :: 285 :: 286 :: 289 :: 290 :: 291 :: 293 :: 294 :: 296 :: 297 :: 298 :: 300 :: 301 :: 303 :: 304 :: 305 :: 307 :: 308 :: 310 :: 311 :: 312 :: 315 :: 316 :: 324 :: 326 :: 327 :: 329 :: 330 :: 331 :: 332 :: 333 :: 334 :: 335 :: 338 :: 341 :: 342 :: 343 :: 345 :: 346 :: 348 :: 349 :: 350 :: 352 :: 353 :: 355 :: 356 :: 357 :: 359 :: 360 :: 362 :: 363 :: 364 :: 366 :: 367 :: 369 :: 370 :: 371 :: 373 :: 374 :: 376 :: 377 :: 378 :: 380 :: 381 :: 383 :: 384 :: 385 :: 387 :: 388 :: 390 :: 391 :: 392 :: 394 :: 395 :: 397 :: 398 :: 399 :: 401 :: 402 :: 404 :: 405 :: 406 :: 408 :: 409 :: 411 :: 412 :: 413 :: 415 :: 416 :: 418 :: 419 :: 420 :: 421 :: 424 :: 425 :: 426 :: 428 :: 429 :: 431 :: 432 :: 433 :: 435 :: 436 :: 438 :: 439 :: 440 :: 443 :: 444 :: 445 :: 448 :: 449 :: []
theorem hdAds_eq : ∀ P, hdAds = (hd.heap_39 P).map (·.1) := fun _ => by kernel_rfl

/-- the rest of the objects behind the top's run -/
abbrev hdNo : Obj := {cls := Value.none, data := Data.fields #[]}
def hdRaw (n q : Str) (s : Stmt) : Obj := {cls := Value.none, data := Data.func {name := n, qualname := q, params := (hdParts s).1, body := .stmts (hdParts s).2.1, scope := (hdParts s).2.2, globals := 0, closure := [], defaults := Value.none, kwdefaults := Value.none}}
noncomputable def hdRest : Params → List (Nat × Obj) := fun P =>
  (0, boot_o_0 P) ::
  (1, boot_o_1 P) ::
  (4, boot_o_4 P) ::
  (5, boot_o_5 P) ::
  (6, boot_o_6 P) ::
  (7, boot_o_7 P) ::
  (8, boot_o_8 P) ::
  (9, boot_o_9 P) ::
  (10, boot_o_10 P) ::
  (11, ({cls := Value.type "tuple", data := Data.seq #[]} : Obj)) ::
  (12, ({cls := Value.none, data := Data.fields (List.toArray ((Value.int 1 0) :: (Value.int 0 0) :: (Value.ref 20) :: (Value.int 5 0) :: (Value.int 0 0) :: (Value.ref 27) :: (Value.int 9 0) :: (Value.int 0 0) :: (Value.ref 32) :: (Value.int 25 0) :: (Value.int 0 0) :: (Value.ref 39) :: (Value.int 30 0) :: (Value.int 0 0) :: (Value.ref 44) :: (Value.int 36 0) :: (Value.int 0 0) :: (Value.ref 51) :: (Value.int 42 0) :: (Value.int 0 0) :: (Value.ref 58) :: (Value.int 54 0) :: (Value.int 0 0) :: (Value.ref 65) :: (Value.int 65 0) :: (Value.int 0 0) :: (Value.ref 72) :: (Value.int 73 0) :: (Value.int 0 0) :: (Value.ref 79) :: (Value.int 78 0) :: (Value.int 0 0) :: (Value.ref 86) :: (Value.int 87 0) :: (Value.int 0 0) :: (Value.ref 93) :: (Value.int 92 0) :: (Value.int 0 0) :: (Value.ref 100) :: (Value.int 99 0) :: (Value.int 0 0) :: (Value.ref 107) :: (Value.int 107 0) :: (Value.int 0 0) :: (Value.ref 114) :: (Value.int 114 0) :: (Value.int 0 0) :: (Value.ref 121) :: (Value.int 134 0) :: (Value.int 0 0) :: (Value.ref 128) :: (Value.int 141 0) :: (Value.int 0 0) :: (Value.ref 133) :: (Value.int 145 0) :: (Value.int 0 0) :: (Value.ref 141) :: (Value.int 148 0) :: (Value.int 0 0) :: (Value.ref 148) :: (Value.int 150 0) :: (Value.int 0 0) :: (Value.ref 161) :: (Value.int 156 0) :: (Value.int 0 0) :: (Value.ref 180) :: (Value.int 167 0) :: (Value.int 0 0) :: (Value.ref 209) :: (Value.int 171 0) :: (Value.int 0 0) :: (Value.ref 216) :: (Value.int 182 0) :: (Value.int 0 0) :: (Value.ref 223) :: (Value.int 186 0) :: (Value.int 0 0) :: (Value.ref 230) :: (Value.int 192 0) :: (Value.int 0 0) :: (Value.ref 237) :: (Value.int 203 0) :: (Value.int 0 0) :: (Value.ref 242) :: (Value.int 212 0) :: (Value.int 0 0) :: (Value.ref 249) :: (Value.int 216 0) :: (Value.int 0 0) :: (Value.ref 256) :: (Value.int 220 0) :: (Value.int 0 0) :: (Value.ref 264) :: (Value.int 228 0) :: (Value.int 0 0) :: (Value.ref 270) :: (Value.int 236 0) :: (Value.int 0 0) :: (Value.ref 277) :: (Value.int 241 0) :: (Value.int 0 0) :: (Value.ref 284) :: (Value.int 245 0) :: (Value.int 0 0) :: (Value.ref 289) :: (Value.int 252 0) :: (Value.int 0 0) :: (Value.ref 296) :: (Value.int 261 0) :: (Value.int 0 0) :: (Value.ref 303) :: (Value.int 267 0) :: (Value.int 0 0) :: (Value.ref 310) :: (Value.int 281 0) :: (Value.int 0 0) :: (Value.ref 315) :: (Value.int 287 0) :: (Value.int 0 0) :: (Value.ref 322) :: (Value.int 297 0) :: (Value.int 0 0) :: (Value.ref 341) :: (Value.int 301 0) :: (Value.int 0 0) :: (Value.ref 348) :: (Value.int 306 0) :: (Value.int 0 0) :: (Value.ref 355) :: (Value.int 310 0) :: (Value.int 0 0) :: (Value.ref 362) :: (Value.int 316 0) :: (Value.int 0 0) :: (Value.ref 369) :: (Value.int 320 0) :: (Value.int 0 0) :: (Value.ref 376) :: (Value.int 324 0) :: (Value.int 0 0) :: (Value.ref 383) :: (Value.int 342 0) :: (Value.int 0 0) :: (Value.ref 390) :: (Value.int 361 0) :: (Value.int 0 0) :: (Value.ref 397) :: (Value.int 369 0) :: (Value.int 0 0) :: (Value.ref 404) :: (Value.int 380 0) :: (Value.int 0 0) :: (Value.ref 411) :: (Value.int 383 0) :: (Value.int 0 0) :: (Value.ref 418) :: (Value.int 390 0) :: (Value.int 0 0) :: (Value.ref 424) :: (Value.int 408 0) :: (Value.int 0 0) :: (Value.ref 431) :: (Value.int 418 0) :: (Value.int 0 0) :: (Value.ref 438) :: (Value.int 420 0) :: (Value.int 0 0) :: (Value.ref 443) :: (Value.int 437 0) :: (Value.int 0 0) :: (Value.ref 448) :: []))} : Obj)) ::
  (13, ({cls := Value.type "code", data := Data.fields #[Value.str (Str.ofString "<module>") 182, Value.str (Str.ofString "<module>") 183, Value.str (Str.ofString "/claim/cut.py") 184, Value.int 1 0, Value.int 0 0, Value.int 0 0, Value.int 0 0, Value.int 0 0, Value.ref 11, Value.bool false, Value.int 181 0, Value.ref 12, Value.none, Value.none, Value.none, Value.none, Value.int 185 0, Value.int 1 0, Value.str (Str.ofString "/claim/cut.py") 186]} : Obj)) ::
  (14, ({cls := Value.type "frame", slots := #[some (Value.ref 13), some (Value.ref 3), some (Value.ref 3), none, some (Value.str (Str.ofString "__main__") 164), none, some (Value.ref 0)]} : Obj)) ::
  (16, hdNo) ::
  (19, hdRaw "_wall" "_wall" (hdCell hdBody 0)) ::
  (23, hdNo) ::
  (26, hdRaw "get_attr" "get_attr" (hdCell hdBody 2)) ::
  (30, hdNo) ::
  (31, hdRaw "names_of" "names_of" (hdCell hdBody 3)) ::
  (35, hdNo) ::
  (38, hdRaw "dim_of" "dim_of" (hdCell hdBody 4)) ::
  (42, hdNo) ::
  (43, hdRaw "dimnames_of" "dimnames_of" (hdCell hdBody 5)) ::
  (47, hdNo) ::
  (50, hdRaw "nearest_whole" "nearest_whole" (hdCell hdBody 7)) ::
  (54, hdNo) ::
  (57, hdRaw "exponent" "exponent" (hdCell hdBody 8)) ::
  (61, hdNo) ::
  (64, hdRaw "whole_text" "whole_text" (hdCell hdBody 10)) ::
  (68, hdNo) ::
  (71, hdRaw "special_text" "special_text" (hdCell hdBody 11)) ::
  (75, hdNo) ::
  (78, hdRaw "scaled" "scaled" (hdCell hdBody 12)) ::
  (82, hdNo) ::
  (85, hdRaw "significant" "significant" (hdCell hdBody 13)) ::
  (89, hdNo) ::
  (92, hdRaw "without_tail" "without_tail" (hdCell hdBody 14)) ::
  (96, hdNo) ::
  (99, hdRaw "scientific_text" "scientific_text" (hdCell hdBody 15)) ::
  (103, hdNo) ::
  (106, hdRaw "fixed_text" "fixed_text" (hdCell hdBody 16)) ::
  (110, hdNo) ::
  (113, hdRaw "measures" "measures" (hdCell hdBody 17)) ::
  (117, hdNo) ::
  (120, hdRaw "chosen_form" "chosen_form" (hdCell hdBody 18)) ::
  (124, hdNo) ::
  (127, hdRaw "formed" "formed" (hdCell hdBody 19)) ::
  (131, hdNo) ::
  (132, hdRaw "common_texts" "common_texts" (hdCell hdBody 20)) ::
  (137, hdNo) ::
  (140, hdRaw "number_text" "number_text" (hdCell hdBody 21)) ::
  (144, ({cls := Value.type "builtin_function_or_method", data := Data.fields #[Value.builtin "type.__prepare__", Value.type "type"]} : Obj)) ::
  (145, ({cls := Value.type "dict", data := Data.dict #[{hash := PyData.keyHash P (Str.ofString "__module__"), key := Value.str (Str.ofString "__module__") 378, val := Value.str (Str.ofString "vectorcove.errors") 369}, {hash := PyData.keyHash P (Str.ofString "__qualname__"), key := Value.str (Str.ofString "__qualname__") 380, val := Value.str (Str.ofString "CoveError") 379}, {hash := PyData.keyHash P (Str.ofString "__firstlineno__"), key := Value.str (Str.ofString "__firstlineno__") 382, val := Value.int 148 381}, {hash := PyData.keyHash P (Str.ofString "__static_attributes__"), key := Value.str (Str.ofString "__static_attributes__") 383, val := Value.ref 150}] 4} : Obj)) ::
  (146, ({cls := Value.type "tuple", data := Data.seq #[]} : Obj)) ::
  (147, hdNo) ::
  (148, ({cls := Value.type "code", data := Data.fields #[Value.str (Str.ofString "CoveError") 373, Value.str (Str.ofString "CoveError") 374, Value.str (Str.ofString "/claim/cut.py") 375, Value.int 148 0, Value.int 0 0, Value.int 0 0, Value.int 0 0, Value.int 0 0, Value.ref 146, Value.bool false, Value.int 181 0, Value.ref 147, Value.none, Value.none, Value.none, Value.none, Value.int 376 0, Value.int 148 0, Value.str (Str.ofString "/claim/cut.py") 377]} : Obj)) ::
  (149, ({cls := Value.type "frame", slots := #[some (Value.ref 148), some (Value.ref 3), some (Value.ref 145), none, some (Value.str (Str.ofString "vectorcove.errors") 369), none, some (Value.ref 0)]} : Obj)) ::
  (154, ({cls := Value.type "super", data := Data.fields #[Value.ref 152, Value.ref 152, Value.ref 152]} : Obj)) ::
  (155, ({cls := Value.type "builtin_function_or_method", data := Data.fields #[Value.builtin "object.__init_subclass__", Value.ref 152]} : Obj)) ::
  (157, ({cls := Value.type "builtin_function_or_method", data := Data.fields #[Value.builtin "type.__prepare__", Value.type "type"]} : Obj)) ::
  (158, ({cls := Value.type "dict", data := Data.dict #[{hash := PyData.keyHash P (Str.ofString "__module__"), key := Value.str (Str.ofString "__module__") 398, val := Value.str (Str.ofString "vectorcove.errors") 369}, {hash := PyData.keyHash P (Str.ofString "__qualname__"), key := Value.str (Str.ofString "__qualname__") 400, val := Value.str (Str.ofString "Refusal") 399}, {hash := PyData.keyHash P (Str.ofString "__firstlineno__"), key := Value.str (Str.ofString "__firstlineno__") 402, val := Value.int 150 401}, {hash := PyData.keyHash P (Str.ofString "__init__"), key := Value.str (Str.ofString "__init__") 410, val := Value.ref 169}, {hash := PyData.keyHash P (Str.ofString "__static_attributes__"), key := Value.str (Str.ofString "__static_attributes__") 412, val := Value.ref 170}] 5} : Obj)) ::
  (159, ({cls := Value.type "tuple", data := Data.seq #[]} : Obj)) ::
  (160, ({cls := Value.none, data := Data.fields #[Value.int 152 0, Value.int 4 0, Value.ref 168]} : Obj)) ::
  (161, ({cls := Value.type "code", data := Data.fields #[Value.str (Str.ofString "Refusal") 393, Value.str (Str.ofString "Refusal") 394, Value.str (Str.ofString "/claim/cut.py") 395, Value.int 150 0, Value.int 0 0, Value.int 0 0, Value.int 0 0, Value.int 0 0, Value.ref 159, Value.bool false, Value.int 181 0, Value.ref 160, Value.none, Value.none, Value.none, Value.none, Value.int 396 0, Value.int 150 0, Value.str (Str.ofString "/claim/cut.py") 397]} : Obj)) ::
  (162, ({cls := Value.type "frame", slots := #[some (Value.ref 161), some (Value.ref 3), some (Value.ref 158), none, some (Value.str (Str.ofString "vectorcove.errors") 369), none, some (Value.ref 0)]} : Obj)) ::
  (164, hdNo) ::
  (167, hdRaw "__init__" "Refusal.__init__" (hdCell (hdIn (hdCell hdBody 24)) 0)) ::
  (173, ({cls := Value.type "super", data := Data.fields #[Value.ref 172, Value.ref 172, Value.ref 172]} : Obj)) ::
  (174, ({cls := Value.type "builtin_function_or_method", data := Data.fields #[Value.builtin "object.__init_subclass__", Value.ref 172]} : Obj)) ::
  (175, ({cls := Value.type "tuple", data := Data.seq #[]} : Obj)) ::
  (176, ({cls := Value.type "builtin_function_or_method", data := Data.fields #[Value.builtin "type.__prepare__", Value.type "type"]} : Obj)) ::
  (177, ({cls := Value.type "dict", data := Data.dict #[{hash := PyData.keyHash P (Str.ofString "__module__"), key := Value.str (Str.ofString "__module__") 427, val := Value.str (Str.ofString "vectorcove.values") 416}, {hash := PyData.keyHash P (Str.ofString "__qualname__"), key := Value.str (Str.ofString "__qualname__") 429, val := Value.str (Str.ofString "Vector") 428}, {hash := PyData.keyHash P (Str.ofString "__firstlineno__"), key := Value.str (Str.ofString "__firstlineno__") 431, val := Value.int 156 430}, {hash := PyData.keyHash P (Str.ofString "__init__"), key := Value.str (Str.ofString "__init__") 441, val := Value.ref 189}, {hash := PyData.keyHash P (Str.ofString "copy"), key := Value.str (Str.ofString "copy") 448, val := Value.ref 196}, {hash := PyData.keyHash P (Str.ofString "__static_attributes__"), key := Value.str (Str.ofString "__static_attributes__") 454, val := Value.ref 197}] 6} : Obj)) ::
  (178, ({cls := Value.type "tuple", data := Data.seq #[]} : Obj)) ::
  (179, ({cls := Value.none, data := Data.fields #[Value.int 158 0, Value.int 4 0, Value.ref 188, Value.int 165 0, Value.int 4 0, Value.ref 195]} : Obj)) ::
  (180, ({cls := Value.type "code", data := Data.fields #[Value.str (Str.ofString "Vector") 422, Value.str (Str.ofString "Vector") 423, Value.str (Str.ofString "/claim/cut.py") 424, Value.int 156 0, Value.int 0 0, Value.int 0 0, Value.int 0 0, Value.int 0 0, Value.ref 178, Value.bool false, Value.int 181 0, Value.ref 179, Value.none, Value.none, Value.none, Value.none, Value.int 425 0, Value.int 156 0, Value.str (Str.ofString "/claim/cut.py") 426]} : Obj)) ::
  (181, ({cls := Value.type "frame", slots := #[some (Value.ref 180), some (Value.ref 3), some (Value.ref 177), none, some (Value.str (Str.ofString "vectorcove.values") 416), none, some (Value.ref 0)]} : Obj)) ::
  (184, hdNo) ::
  (187, hdRaw "__init__" "Vector.__init__" (hdCell (hdIn (hdCell hdBody 27)) 0)) ::
  (191, hdNo) ::
  (194, hdRaw "copy" "Vector.copy" (hdCell (hdIn (hdCell hdBody 27)) 1)) ::
  (202, ({cls := Value.type "super", data := Data.fields #[Value.ref 199, Value.ref 199, Value.ref 199]} : Obj)) ::
  (203, ({cls := Value.type "builtin_function_or_method", data := Data.fields #[Value.builtin "object.__init_subclass__", Value.ref 199]} : Obj)) ::
  (205, hdNo) ::
  (208, hdRaw "room" "room" (hdCell hdBody 28)) ::
  (212, hdNo) ::
  (215, hdRaw "length" "length" (hdCell hdBody 29)) ::
  (219, hdNo) ::
  (222, hdRaw "is_atomic" "is_atomic" (hdCell hdBody 30)) ::
  (226, hdNo) ::
  (229, hdRaw "grown_text" "grown_text" (hdCell hdBody 33)) ::
  (233, hdNo) ::
  (236, hdRaw "escaped_char" "escaped_char" (hdCell hdBody 35)) ::
  (240, hdNo) ::
  (241, hdRaw "encode_text" "encode_text" (hdCell hdBody 36)) ::
  (245, hdNo) ::
  (248, hdRaw "logical_text" "logical_text" (hdCell hdBody 37)) ::
  (252, hdNo) ::
  (255, hdRaw "integer_text" "integer_text" (hdCell hdBody 38)) ::
  (260, hdNo) ::
  (263, hdRaw "format_item" "format_item" (hdCell hdBody 39)) ::
  (268, hdNo) ::
  (269, hdRaw "item_texts" "item_texts" (hdCell hdBody 40)) ::
  (273, hdNo) ::
  (276, hdRaw "widest" "widest" (hdCell hdBody 41)) ::
  (280, hdNo) ::
  (283, hdRaw "is_factor" "is_factor" (hdCell hdBody 42)) ::
  (287, hdNo) ::
  (288, hdRaw "level_texts" "level_texts" (hdCell hdBody 43)) ::
  (292, hdNo) ::
  (295, hdRaw "factor_labels" "factor_labels" (hdCell hdBody 44)) ::
  (299, hdNo) ::
  (302, hdRaw "short_kind" "short_kind" (hdCell hdBody 45)) ::
  (306, hdNo) ::
  (309, hdRaw "short_form" "short_form" (hdCell hdBody 46)) ::
  (313, hdNo) ::
  (314, hdRaw "format_list_items" "format_list_items" (hdCell hdBody 47)) ::
  (317, ({cls := Value.type "tuple", data := Data.seq #[]} : Obj)) ::
  (318, ({cls := Value.type "builtin_function_or_method", data := Data.fields #[Value.builtin "type.__prepare__", Value.type "type"]} : Obj)) ::
  (319, ({cls := Value.type "dict", data := Data.dict #[{hash := PyData.keyHash P (Str.ofString "__module__"), key := Value.str (Str.ofString "__module__") 614, val := Value.str (Str.ofString "vectorcove.printmat") 601}, {hash := PyData.keyHash P (Str.ofString "__qualname__"), key := Value.str (Str.ofString "__qualname__") 616, val := Value.str (Str.ofString "Layout") 615}, {hash := PyData.keyHash P (Str.ofString "__firstlineno__"), key := Value.str (Str.ofString "__firstlineno__") 618, val := Value.int 287 617}, {hash := PyData.keyHash P (Str.ofString "__init__"), key := Value.str (Str.ofString "__init__") 627, val := Value.ref 330}, {hash := PyData.keyHash P (Str.ofString "__static_attributes__"), key := Value.str (Str.ofString "__static_attributes__") 635, val := Value.ref 331}] 5} : Obj)) ::
  (320, ({cls := Value.type "tuple", data := Data.seq #[]} : Obj)) ::
  (321, ({cls := Value.none, data := Data.fields #[Value.int 289 0, Value.int 4 0, Value.ref 329]} : Obj)) ::
  (322, ({cls := Value.type "code", data := Data.fields #[Value.str (Str.ofString "Layout") 609, Value.str (Str.ofString "Layout") 610, Value.str (Str.ofString "/claim/cut.py") 611, Value.int 287 0, Value.int 0 0, Value.int 0 0, Value.int 0 0, Value.int 0 0, Value.ref 320, Value.bool false, Value.int 181 0, Value.ref 321, Value.none, Value.none, Value.none, Value.none, Value.int 612 0, Value.int 287 0, Value.str (Str.ofString "/claim/cut.py") 613]} : Obj)) ::
  (323, ({cls := Value.type "frame", slots := #[some (Value.ref 322), some (Value.ref 3), some (Value.ref 319), none, some (Value.str (Str.ofString "vectorcove.printmat") 601), none, some (Value.ref 0)]} : Obj)) ::
  (325, hdNo) ::
  (328, hdRaw "__init__" "Layout.__init__" (hdCell (hdIn (hdCell hdBody 52)) 0)) ::
  (336, ({cls := Value.type "super", data := Data.fields #[Value.ref 333, Value.ref 333, Value.ref 333]} : Obj)) ::
  (337, ({cls := Value.type "builtin_function_or_method", data := Data.fields #[Value.builtin "object.__init_subclass__", Value.ref 333]} : Obj)) ::
  (339, hdNo) ::
  (340, hdRaw "shown_names" "shown_names" (hdCell hdBody 53)) ::
  (344, hdNo) ::
  (347, hdRaw "row_offset" "row_offset" (hdCell hdBody 54)) ::
  (351, hdNo) ::
  (354, hdRaw "label_room" "label_room" (hdCell hdBody 55)) ::
  (358, hdNo) ::
  (361, hdRaw "row_label" "row_label" (hdCell hdBody 56)) ::
  (365, hdNo) ::
  (368, hdRaw "column_head" "column_head" (hdCell hdBody 57)) ::
  (372, hdNo) ::
  (375, hdRaw "padded" "padded" (hdCell hdBody 58)) ::
  (379, hdNo) ::
  (382, hdRaw "block_rows" "block_rows" (hdCell hdBody 59)) ::
  (386, hdNo) ::
  (389, hdRaw "layout_rows" "layout_rows" (hdCell hdBody 60)) ::
  (393, hdNo) ::
  (396, hdRaw "frame_cells" "frame_cells" (hdCell hdBody 61)) ::
  (400, hdNo) ::
  (403, hdRaw "frame_columns" "frame_columns" (hdCell hdBody 62)) ::
  (407, hdNo) ::
  (410, hdRaw "filled_cells" "filled_cells" (hdCell hdBody 63)) ::
  (414, hdNo) ::
  (417, hdRaw "frame_labels" "frame_labels" (hdCell hdBody 64)) ::
  (422, hdNo) ::
  (423, hdRaw "print_frame" "print_frame" (hdCell hdBody 65)) ::
  (427, hdNo) ::
  (430, hdRaw "_law_plums" "_law_plums" (hdCell hdBody 67)) ::
  (434, hdNo) ::
  (437, hdRaw "_law_plum" "_law_plum" (hdCell hdBody 68)) ::
  (441, hdNo) ::
  (442, hdRaw "_law_column" "_law_column" (hdCell hdBody 69)) ::
  (446, hdNo) ::
  (447, hdRaw "law" "law" (hdCell hdBody 70)) ::
  []
def hdMix : Nat → List (Nat × Obj) → List (Nat × Obj) → List Obj
  | n + 1, (a, x) :: l, (b, y) :: r => match Nat.blt a b with
    | true => x :: hdMix n l ((b, y) :: r)
    | false => y :: hdMix n ((a, x) :: l) r
  | n + 1, (_, x) :: l, [] => x :: hdMix n l []
  | n + 1, [], (_, y) :: r => y :: hdMix n [] r
  | _, _, _ => []
noncomputable def hdObjs (P : Params) : List Obj := hdMix 450 (hd.heap_39 P) (hdRest P)
noncomputable def hdHeap (P : Params) : Heap := ⟨(hdObjs P).toArray, (boot_heap P).life⟩

/-- the run of the top on the tree of objects: one function of a number, so that the kernel does it -/
def hdGo (st : SharedT → Thread → Option (SharedT × Thread)) (ok : Thread → Bool) : Nat → SharedT → Thread → Option SharedT
  | 0, _, _ => none
  | n + 1, s, t => match through t with
    | true => some s
    | false => match ok t with
      | false => none
      | true => match st s t with
        | some (s', t') => hdGo st ok n s' t'
        | none => none
theorem hdGo_of {tb : String → Option Builtin} {p : Program} {w : World} {n₀ : Nat} {ann : Option Value} : ∀ {n : Nat} {s s' : SharedT} {t : Thread},
    hdGo (stepT (denote tb) p w) (stepOk n₀ ann) n s t = some s' → topRun tb p w n₀ ann n s.abs t = some s'.abs
  | 0, _, _, _, h => by cases h
  | n + 1, s, s', t, h => by
    unfold hdGo at h
    unfold topRun
    cases ht : through t with
    | true => rw [ht] at h; cases h; rfl
    | false =>
      rw [ht] at h
      cases hk : stepOk n₀ ann t with
      | false => rw [hk] at h; cases h
      | true =>
        rw [hk] at h
        cases hs : stepT (denote tb) p w s t with
        | none => rw [hs] at h; cases h
        | some r => obtain ⟨s₂, t₂⟩ := r; rw [hs] at h; rw [stepT_spec hs]; exact hdGo_of h
noncomputable def hdT (P : Params) : BT := (boot_heap P).objs.toList.zipIdx.foldl (fun t x => t.ins x.2 x.1) .nil
noncomputable def hdS (w : World) (os : OsState) : SharedT := ⟨hdT w.params, 11, (boot_heap w.params).life, Array.mk [], boot_drawn, boot_toks, os⟩
theorem hdS_abs (w : World) (os : OsState) : (hdS w os).abs = ⟨boot_heap w.params, Array.mk [], boot_drawn, boot_toks, os⟩ := by kernel_rfl
theorem hd_open : ∀ w : World, (fencedOpening treeTable hdPw w 2700).map (fun s => (s.heap, s.gens, s.drawn, s.toks)) = some (boot_heap w.params, Array.mk [], boot_drawn, boot_toks) :=
  boot_open (by with_unfolding_all rfl) (by decide) (fun s => by with_unfolding_all rfl)
theorem hd_size : ∀ w : World, ((boot_heap w.params).isNs mainGlobals && (Array.mk [] : Array GenState).size == 0, (boot_heap w.params).objs.size, (boot_heap w.params).nsMap mainGlobals "__annotations__") = (true, 11, some (.ref 6)) := fun w => by kernel_rfl
noncomputable abbrev hdRun (w : World) (os : OsState) : Option SharedT := hdGo (stepT (denote treeTable) hdPw w) (stepOk 11 (some (.ref 6))) 2700 (hdS w os) (topStub hdPw)
theorem hd_run (w : World) (os : OsState) : (hdRun w os).map (fun s => (s.tree.list s.n, s.life, s.gens, s.drawn, s.toks, s.os)) = some (hdObjs w.params, (boot_heap w.params).life, Array.mk [], boot_drawn, 805, os) := by
  unfold hdRun
  rewrite [PySem.W.Fast.te10156331382660048174, PySem.W.Fast.te11892475500146522536, PySem.W.Fast.te14364793385576792824, PySem.W.Fast.te6613529449190102663]
  kernel_rfl
theorem hdAbs {T : BT} {n : Nat} {l l' : Life} {g g' : Array GenState} {d d' : Drawn} {k k' : Nat} {os os' : OsState} {os₁ : List Obj} (e : (T.list n, l, g, d, k, os) = (os₁, l', g', d', k', os')) :
    (SharedT.mk T n l g d k os).abs = ⟨⟨os₁.toArray, l'⟩, g', d', k', os'⟩ := by
  simp only [Prod.mk.injEq] at e
  obtain ⟨rfl, rfl, rfl, rfl, rfl, rfl⟩ := e
  rfl
theorem hdRan {tb : String → Option Builtin} {p : Program} {w : World} {n₀ : Nat} {ann : Option Value} {n : Nat} {s : SharedT} {s₀ : Shared} {t : Thread} {os₁ : List Obj} {l' : Life} {g' : Array GenState} {d' : Drawn} {k' : Nat} {os' : OsState} (e₀ : s.abs = s₀)
    (h : (hdGo (stepT (denote tb) p w) (stepOk n₀ ann) n s t).map (fun s => (s.tree.list s.n, s.life, s.gens, s.drawn, s.toks, s.os)) = some (os₁, l', g', d', k', os')) : topRun tb p w n₀ ann n s₀ t = some ⟨⟨os₁.toArray, l'⟩, g', d', k', os'⟩ := by
  obtain ⟨⟨T, m, l, g, d, k, o⟩, r, e⟩ := Option.map_eq_some_iff.mp h
  subst e₀
  rw [hdGo_of r, hdAbs e]
theorem hd_ran (w : World) (os : OsState) : topRun treeTable hdPw w 11 (some (.ref 6)) 2700 ⟨boot_heap w.params, Array.mk [], boot_drawn, boot_toks, os⟩ (topStub hdPw) = some ⟨hdHeap w.params, Array.mk [], boot_drawn, 805, os⟩ :=
  hdRan (hdS_abs w os) (hd_run w os)
noncomputable abbrev hdSeen (s : Shared) := openSeen hd.view_39 hdLoose (importedModules hdPw.main.body) (fun s => xlAt hd.view_39 [] s && recOk (RowW.records hdRow) s) true s
theorem hd_look0 (w : World) (os : OsState) : (staticsOk (importedModules hdPw.main.body) (boot_heap w.params) (hdHeap w.params) && namesBound hdPw (hdHeap w.params) && gensDone ⟨hdHeap w.params, Array.mk [], boot_drawn, 805, os⟩ && laidKept (boot_heap w.params) (hdHeap w.params)) = true := by
  rewrite [PySem.W.Fast.te5923862056798008813]
  kernel_rfl
theorem hd_look1 (w : World) (os : OsState) : (hdSeen ⟨hdHeap w.params, Array.mk [], boot_drawn, 805, os⟩).1 = expectedOf hd.view_39 := by
  unfold hdSeen
  rewrite [PySem.W.Fast.te4187177175401517315, PySem.W.Fast.te5923862056798008813]
  kernel_rfl
theorem hd_look2 (w : World) (os : OsState) : (hdSeen ⟨hdHeap w.params, Array.mk [], boot_drawn, 805, os⟩).2.1 = bltViewBooted := by
  unfold hdSeen
  rewrite [PySem.W.Fast.te4187177175401517315, PySem.W.Fast.te5923862056798008813]
  kernel_rfl
theorem hd_look3 (w : World) (os : OsState) : (hdSeen ⟨hdHeap w.params, Array.mk [], boot_drawn, 805, os⟩).2.2.1 = true := by
  unfold hdSeen
  rewrite [PySem.W.Fast.te4187177175401517315, PySem.W.Fast.te5923862056798008813]
  kernel_rfl
theorem hd_look4 (w : World) (os : OsState) : (hdSeen ⟨hdHeap w.params, Array.mk [], boot_drawn, 805, os⟩).2.2.2.1 = true := by
  unfold hdSeen
  rewrite [PySem.W.Fast.te4187177175401517315, PySem.W.Fast.te5923862056798008813]
  kernel_rfl
theorem hd_look5 (w : World) (os : OsState) : (hdSeen ⟨hdHeap w.params, Array.mk [], boot_drawn, 805, os⟩).2.2.2.2.1 = pinGoodD (drecsOf hd.view_39) := by
  unfold hdSeen
  rewrite [PySem.W.Fast.te4187177175401517315, PySem.W.Fast.te5923862056798008813]
  kernel_rfl
theorem hd_look6 (w : World) (os : OsState) : (hdSeen ⟨hdHeap w.params, Array.mk [], boot_drawn, 805, os⟩).2.2.2.2.2.1 = plainGoodE hd.view_39 (looseW hd.view_39 hdLoose) := by
  unfold hdSeen
  rewrite [PySem.W.Fast.te4187177175401517315, PySem.W.Fast.te5923862056798008813]
  kernel_rfl
theorem hd_look7 (w : World) (os : OsState) : (hdSeen ⟨hdHeap w.params, Array.mk [], boot_drawn, 805, os⟩).2.2.2.2.2.2.1 = plainGoodD hd.view_39 hdLoose := by
  unfold hdSeen
  rewrite [PySem.W.Fast.te4187177175401517315, PySem.W.Fast.te5923862056798008813]
  kernel_rfl
theorem hd_look8 (w : World) (os : OsState) : (hdSeen ⟨hdHeap w.params, Array.mk [], boot_drawn, 805, os⟩).2.2.2.2.2.2.2.1 = wideGood hd.view_39 := by
  unfold hdSeen
  rewrite [PySem.W.Fast.te4187177175401517315, PySem.W.Fast.te5923862056798008813]
  kernel_rfl
theorem hd_look9 (w : World) (os : OsState) : (hdSeen ⟨hdHeap w.params, Array.mk [], boot_drawn, 805, os⟩).2.2.2.2.2.2.2.2 = clsGoodW hd.view_39 hdLoose := by
  unfold hdSeen
  rewrite [PySem.W.Fast.te4187177175401517315, PySem.W.Fast.te5923862056798008813]
  kernel_rfl
theorem hd_obs (w : World) : hdAds.map (hdHeap w.params).get? = (hd.heap_39 w.params).map fun p => some p.2 := by kernel_rfl
theorem hdNine {α₁ α₂ α₃ α₄ α₅ α₆ α₇ α₈ α₉ : Type} {x : α₁ × α₂ × α₃ × α₄ × α₅ × α₆ × α₇ × α₈ × α₉} {y₁ : α₁} {y₂ : α₂} {y₃ : α₃} {y₄ : α₄} {y₅ : α₅} {y₆ : α₆} {y₇ : α₇} {y₈ : α₈} {y₉ : α₉}
    (h₁ : x.1 = y₁) (h₂ : x.2.1 = y₂) (h₃ : x.2.2.1 = y₃) (h₄ : x.2.2.2.1 = y₄) (h₅ : x.2.2.2.2.1 = y₅) (h₆ : x.2.2.2.2.2.1 = y₆) (h₇ : x.2.2.2.2.2.2.1 = y₇) (h₈ : x.2.2.2.2.2.2.2.1 = y₈) (h₉ : x.2.2.2.2.2.2.2.2 = y₉) :
    x = (y₁, y₂, y₃, y₄, y₅, y₆, y₇, y₈, y₉) := by
  obtain ⟨_, _, _, _, _, _, _, _, _⟩ := x
  cases h₁; cases h₂; cases h₃; cases h₄; cases h₅; cases h₆; cases h₇; cases h₈; cases h₉
  rfl
theorem hd_seen (w : World) (os : OsState) : hdSeen ⟨hdHeap w.params, Array.mk [], boot_drawn, 805, os⟩ = openGood hd.view_39 hdLoose := by
  unfold openGood
  exact hdNine (hd_look1 w os) (hd_look2 w os) (hd_look3 w os) (hd_look4 w os) (hd_look5 w os) (hd_look6 w os) (hd_look7 w os) (hd_look8 w os) (hd_look9 w os)
theorem hdThree {α β γ δ : Type} {f : δ → α × β × γ} {a : α} {b : β} {c : γ} (h₁ : ∀ d, (f d).1 = a) (h₂ : ∀ d, (f d).2.1 = b) (h₃ : ∀ d, (f d).2.2 = c) : f = fun _ => (a, b, c) :=
  funext fun d => Prod.ext (h₁ d) (Prod.ext (h₂ d) (h₃ d))
theorem hd_left : LeftO hdPw hd.view_39 hdLoose (fun s => xlAt hd.view_39 [] s && recOk (RowW.records hdRow) s) (kHook hd.heap_39 hdAds hdAds_eq).obs (kHook hd.heap_39 hdAds hdAds_eq).val 2700 :=
  LeftO.of_pieces (H₀ := boot_heap) (H₁ := hdHeap) hd_open hd_size hd_ran (by decide) fun w => hdThree (hd_look0 w) (hd_seen w) (fun _ => hd_obs w)

theorem hd_open1 : looksOpen hdPw = true := by
  unfold looksOpen
  simp only [Bool.and_eq_true]
  refine ⟨⟨⟨⟨⟨?_, ?_⟩, ?_⟩, ?_⟩, ?_⟩, ?_⟩
  · decide +kernel
  · decide +kernel
  · rewrite [PySem.W.Fast.te8377067652309620493]; decide +kernel
  · decide +kernel
  · rewrite [PySem.W.Fast.te8326940854005059898]; decide +kernel
  · rewrite [PySem.W.Fast.te17119622794617984870, PySem.W.Fast.te17868728402115742887]; decide +kernel
theorem hd_open2 : PySem.Challenge.rw_qd0173_01.row.wellSaid = true := by
  unfold OpenRow.wellSaid OpenRow.partSaid
  rewrite [show looksOpen PySem.Challenge.rw_qd0173_01.row.prog = true from hd_open1]
  decide +kernel
theorem hd_said : PySem.Challenge.rw_qd0173_01.wellSaid = true := by
  unfold OpenLaw.wellSaid
  rewrite [hd_open2, PySem.W.Fast.te8326940854005059898, PySem.W.Fast.te17119622794617984870]
  decide +kernel
def hdLitD {t : Option (DefRec × List (Str × Expr))} (d : DefRec) (_ : some (d, []) = t) : DefRec := d
/-- the law's walk alone is left -/
theorem hd : let_mvar% ?d := _; WalkO hd.view_39 hdLoose (XL hd.view_39 []) (kHook hd.heap_39 hdAds hdAds_eq).says hdRow (?d : type_of% (hdLitD ?d (rfl : _ = defOf hd.view_39 (Str.ofString "law")))) [] (fun f vs => PySem.call f vs) → PySem.Challenge.rw_qd0173_01.Holds := fun walk =>
  holds_law hd_said fun said => holds_open (q := hd.view_39) (loose := hdLoose) (Xt := fun s => xlAt hd.view_39 [] s && recOk (RowW.records hdRow) s) (XP := XL hd.view_39 []) (Yf := (kHook hd.heap_39 hdAds hdAds_eq).obs) (Ya := (kHook hd.heap_39 hdAds hdAds_eq).val) (YP := (kHook hd.heap_39 hdAds hdAds_eq).says) (N := 2700)
    hd_left (Hook.of _) (Hook.keeps _) (fun s e => xl_of s (Bool.and_eq_true_iff.mp e).1) XL.keeps (by rfl) (by rfl) (by rfl) (fun s e => recFacts_of (Bool.and_eq_true_iff.mp e).2) (by rfl) said (by decide +kernel) ⟨rfl, rfl, rfl, rfl, rfl, by decide +kernel⟩ (by w_witness2) walk
local macro_rules | `(tactic| size_fits) => `(tactic| exact Nat.le_of_ble_eq_true rfl)
local macro_rules | `(tactic| walk_at "call ref") => `(tactic| k_extra "my @call ref")
local macro_rules | `(tactic| walk_at "call builtin:list.pop") => `(tactic| k_extra "my @call builtin:list.pop")
local macro_rules | `(tactic| walk_at "binaryOp Add str str") => `(tactic| k_extra "my @binaryOp Add str str")
local macro_rules | `(tactic| walk_at "call builtin:str.join") => `(tactic| k_extra "my @call builtin:str.join")
local macro_rules | `(tactic| walk_at "compareOp In str str") => `(tactic| k_extra "my @compareOp In str str")
local macro_rules | `(tactic| walk_at "call builtin:str.isprintable") => `(tactic| k_extra "my @call builtin:str.isprintable")
local macro_rules | `(tactic| walk_at "WhlIf") => `(tactic| k_extra "my @WhlIf")
local macro_rules | `(tactic| walk_at "subscriptTail Attribute") => `(tactic| k_extra "my @subscriptTail Attribute")
local macro_rules | `(tactic| walk_at "subscriptTail Subscript") => `(tactic| k_extra "my @subscriptTail Subscript")
local macro_rules | `(tactic| walk_at "execs cons Assign cons") => `(tactic| k_extra "my @execs cons Assign cons")
local macro_rules | `(tactic| walk_at "execs cons") => `(tactic| k_extra "my @execs cons")
local macro_rules | `(tactic| walk_at "exec Assign") => `(tactic| k_extra "my @exec Assign")
local macro_rules | `(tactic| walk_at "exec For Name Call cons nil") => `(tactic| k_extra "my @exec For Name Call cons nil")
local macro_rules | `(tactic| walk_at "exec For Name Subscript cons nil") => `(tactic| k_extra "my @exec For Name Subscript cons nil")
local macro_rules | `(tactic| walk_at "InvEndN") => `(tactic| k_extra "my @InvEndN")
local macro_rules | `(tactic| walk_at "pyIter ref") => `(tactic| k_extra "my @pyIter ref")
local macro_rules | `(tactic| walk_at "exec While") => `(tactic| k_extra "my @exec While")
local macro_rules | `(tactic| walk_at "getMethod ref") => `(tactic| k_extra "my @getMethod ref")
local macro_rules | `(tactic| walk_at "call builtin:dict.get") => `(tactic| k_extra "my @call builtin:dict.get")
local macro_rules | `(tactic| walk_at "CompEnd") => `(tactic| k_extra "my @CompEnd")
local macro_rules | `(tactic| walk_at "LPost") => `(tactic| k_extra "my @LPost")
local macro_rules | `(tactic| walk_at "eval ListComp") => `(tactic| k_extra "my @eval ListComp")
local macro_rules | `(tactic| walk_at "CompSrc") => `(tactic| k_extra "my @CompSrc")
local macro_rules | `(tactic| walk_at "subscriptTail Name Slice ref ref") => `(tactic| k_extra "my @subscriptTail Name Slice ref ref")
local macro_rules | `(tactic| walk_at "call builtin:len") => `(tactic| k_extra "my @call builtin:len")
local macro_rules | `(tactic| walk_at "binaryOp Mult ref int") => `(tactic| k_extra "my @binaryOp Mult ref int")
local macro_rules | `(tactic| walk_at "binaryOp Add ref ref") => `(tactic| k_extra "my @binaryOp Add ref ref")
local macro_rules | `(tactic| walk_at "subscriptTail Name Constant ref int") => `(tactic| k_extra "my @subscriptTail Name Constant ref int")
local macro_rules | `(tactic| walk_at "call type:str") => `(tactic| k_extra "my @call type:str")
local macro_rules | `(tactic| walk_at "GrowPost") => `(tactic| k_extra "my @GrowPost")
local macro_rules | `(tactic| walk_at "compareOp NotIn str ref") => `(tactic| k_extra "my @compareOp NotIn str ref")
local macro_rules | `(tactic| walk_at "call builtin:list.append") => `(tactic| k_extra "my @call builtin:list.append")
local macro_rules | `(tactic| walk_at "subscriptTail Name Name ref int") => `(tactic| k_extra "my @subscriptTail Name Name ref int")
local macro_rules | `(tactic| walk_at "eval IfExp") => `(tactic| k_extra "my @eval IfExp")
local macro_rules | `(tactic| walk_at "FinE") => `(tactic| k_extra "my @FinE")
local macro_rules | `(tactic| walk_at "FinA") => `(tactic| k_extra "my @FinA")
local macro_rules | `(tactic| walk_at "exec If") => `(tactic| k_extra "my @exec If")
local macro_rules | `(tactic| walk_at "KswPost") => `(tactic| k_extra "my @KswPost")
local macro_rules | `(tactic| walk_at "call builtin:list.extend") => `(tactic| k_extra "my @call builtin:list.extend")
local macro_rules | `(tactic| walk_at "exec While Compare") => `(tactic| k_extra "my @exec While Compare")
local macro_rules | `(tactic| walk_at "exec While BoolOp") => `(tactic| k_extra "my @exec While BoolOp")
local macro_rules | `(tactic| walk_at "KswEnd") => `(tactic| k_extra "my @KswEnd")
local macro_rules | `(tactic| walk_at "exec Assign cons ListComp") => `(tactic| k_extra "my @exec Assign cons ListComp")
local macro_rules | `(tactic| walk_at "ite") => `(tactic| k_extra "my @ite")
local macro_rules | `(tactic| walk_at "SrcLP") => `(tactic| k_extra "my @SrcLP")
local macro_rules | `(tactic| walk_at "eval Call") => `(tactic| k_extra "my @eval Call")
local macro_rules | `(tactic| walk_at "subscriptTail List cons Name ref int") => `(tactic| k_extra "my @subscriptTail List cons Name ref int")
local macro_rules | `(tactic| walk_at "inplaceOp Add ref ref") => `(tactic| k_extra "my @inplaceOp Add ref ref")
local macro_rules | `(tactic| walk_at "inplaceOp Add ref") => `(tactic| k_extra "my @inplaceOp Add ref")
local macro_rules | `(tactic| walk_at "subscriptTail List cons Slice ref ref") => `(tactic| k_extra "my @subscriptTail List cons Slice ref ref")
local macro_rules | `(tactic| walk_at "exec For Tuple Name cons nil") => `(tactic| k_extra "my @exec For Tuple Name cons nil")
local macro_rules | `(tactic| walk_at "getItem ref int") => `(tactic| k_extra "my @getItem ref int")
local macro_rules | `(tactic| walk_at "setItem ref int") => `(tactic| k_extra "my @setItem ref int")
local macro_rules | `(tactic| walk_at "setItem ref int str") => `(tactic| k_extra "my @setItem ref int str")
local macro_rules | `(tactic| walk_at "inplaceOp Add str str") => `(tactic| k_extra "my @inplaceOp Add str str")
local macro_rules | `(tactic| walk_at "UnrEnd") => `(tactic| k_extra "my @UnrEnd")
local macro_rules | `(tactic| walk_at "compareOp Eq ref ref") => `(tactic| k_extra "my @compareOp Eq ref ref")
local macro_rules | `(tactic| walk_at "exec Assign") => `(tactic| k_extra "my fold")
local macro_rules | `(tactic| walk_at "exec Assign cons ListComp") => `(tactic| k_extra "my fold")
local macro_rules | `(tactic| walk_at "exec Expr") => `(tactic| k_extra "my fold")
local macro_rules | `(tactic| walk_at "exec If") => `(tactic| k_extra "my fold")
local macro_rules | `(tactic| walk_at "exec AugAssign Subscript") => `(tactic| k_extra "my fold")
local macro_rules | `(tactic| walk_at "exec AugAssign") => `(tactic| k_extra "my fold")
local macro_rules | `(tactic| walk_at "exec For Name Call cons nil") => `(tactic| k_extra "my fold")
local macro_rules | `(tactic| walk_at "exec For Tuple Name cons nil") => `(tactic| k_extra "my fold")
local macro_rules | `(tactic| walk_at "exec For") => `(tactic| k_extra "my fold")
local macro_rules | `(tactic| walk_at "exec Return some") => `(tactic| k_extra "my fold")
local macro_rules | `(tactic| walk_at "assign Tuple") => `(tactic| k_extra "my fold")
local macro_rules | `(tactic| walk_at "eval Call") => `(tactic| k_extra "my fold2")
local macro_rules | `(tactic| walk_at "eval Call Attribute") => `(tactic| k_extra "my fold2")
local macro_rules | `(tactic| walk_at "eval ListComp") => `(tactic| k_extra "my fold2")
-- part Ba
abbrev Led := List (Addr × Obj)
abbrev lst (vs : List Value) (n : Nat) : Obj := { cls := .type "list", data := .seq vs.toArray n }
abbrev tup (vs : List Value) (n : Nat) : Obj := { cls := .type "tuple", data := .seq vs.toArray n }

/-- a call's contract: `need` are the objects that it reads (those under `mt` it may turn); P says what comes back: the value, what `need` has become, what was made -/
def Tell (dp un : Nat) (w : World) (f : Addr) (vs : List Value) (kw : List (Str × Value)) (need : Led) (mt : List Addr) (P : (Value → Led → Led → Prop) → Prop) : Prop :=
  ∀ (p : Program) (loose : List Str) (mean : ExcName → Option Value) (mg mb : Str → Option Value) (gd : Option (List Code)) (cn : Str) (cs : Scope) (a : Addr) (ccd : Value) (cl : List (Str × Addr)) (outer : List Env) (A₀ : Around) (base h₀ : Heap) (L : Addr) (m : Str → Option Value) (news : Led) (s : Shared)
    (Q E : Value → Shared → Prop),
    Below A₀ base outer h₀ → Fr h₀ L s.heap m → (hd.heap_39 w.params).In h₀ → News h₀ L s.heap (need ++ news) → Top p loose mean mg mb h₀ → cs.kind = .function →
    (∀ a ∈ mt, ∀ p ∈ news, p.1 ≠ a) →
    P (fun r keep new => ∀ h' tk', Fr h₀ L h' m → News h₀ L h' (new ++ (keep ++ news)) → (∀ q ∈ new, LCg.Off1 q.1 (keep ++ news)) → Q r { s with heap := h', toks := tk' }) →
    wpAny (model PySem.Challenge.rw_qd0173_01.row.prog w) (ktrTop dp un gd cn cs L a ccd cl outer) (call (.ref f) vs kw) Q E s

theorem wp_less {α : Type} {M : Model} {dp un d u : Nat} {gd : Option (List Code)} {cn : Str} {cs : Scope} {L a : Addr} {ccd : Value} {cl : List (Str × Addr)} {outer : List Env} {t : Sem α} {Q : α → Shared → Prop} {E : Value → Shared → Prop} {s : Shared}
    (h : wpAny M (ktrTop dp un gd cn cs L a ccd cl outer) t Q E s) (hd : d ≤ dp) (hu : u ≤ un) : wpAny M (ktrTop d u gd cn cs L a ccd cl outer) t Q E s :=
  fun Γ p hΓ => h Γ p ⟨hΓ.1, Nat.le_trans hΓ.2.1 hd, hΓ.2.2.1, hΓ.2.2.2.1, Nat.le_trans hΓ.2.2.2.2 hu⟩

theorem Tell.use {dp un : Nat} {w : World} {f : Addr} {vs : List Value} {kw : List (Str × Value)} {need : Led} {mt : List Addr} {P : (Value → Led → Led → Prop) → Prop} (C : Tell dp un w f vs kw need mt P)
    {p : Program} {loose : List Str} {mean : ExcName → Option Value} {mg mb : Str → Option Value} {d u : Nat} {gd : Option (List Code)} {cn : Str} {cs : Scope} {a : Addr} {ccd : Value} {cl : List (Str × Addr)} {outer : List Env} {A₀ : Around} {base h₀ : Heap} {L : Addr} {m : Str → Option Value} {news : Led} {s : Shared}
    {Q E : Value → Shared → Prop}
    (B : Below A₀ base outer h₀) (F : Fr h₀ L s.heap m) (X : (hd.heap_39 w.params).In h₀) (N : News h₀ L s.heap (need ++ news)) (T : Top p loose mean mg mb h₀) (hk : cs.kind = .function)
    (hm : ∀ a ∈ mt, ∀ p ∈ news, p.1 ≠ a) (hd : d ≤ dp) (hu : u ≤ un)
    (h : P (fun r keep new => ∀ h' tk', Fr h₀ L h' m → News h₀ L h' (new ++ (keep ++ news)) → (∀ q ∈ new, LCg.Off1 q.1 (keep ++ news)) → Q r { s with heap := h', toks := tk' })) :
    wpAny (model PySem.Challenge.rw_qd0173_01.row.prog w) (ktrTop d u gd cn cs L a ccd cl outer) (call (.ref f) vs kw) Q E s :=
  wp_less (C p loose mean mg mb gd cn cs a ccd cl outer A₀ base h₀ L m news s Q E B F X N T hk hm h) hd hu

theorem with_need {h₀ h : Heap} {L : Addr} {news need : Led} (N : News h₀ L h news) (hn : ∀ p ∈ need, p ∈ news) : News h₀ L h (need ++ news) := by
  intro p hp
  rcases List.mem_append.mp hp with hp | hp
  · exact N p (hn p hp)
  · exact N p hp

/-- the calls that need nothing turned: `need` is among what stands -/
theorem Tell.useP {dp un : Nat} {w : World} {f : Addr} {vs : List Value} {kw : List (Str × Value)} {need : Led} {P : (Value → Led → Led → Prop) → Prop} (C : Tell dp un w f vs kw need [] P)
    {p : Program} {loose : List Str} {mean : ExcName → Option Value} {mg mb : Str → Option Value} {d u : Nat} {gd : Option (List Code)} {cn : Str} {cs : Scope} {a : Addr} {ccd : Value} {cl : List (Str × Addr)} {outer : List Env} {A₀ : Around} {base h₀ : Heap} {L : Addr} {m : Str → Option Value} {news : Led} {s : Shared}
    {Q E : Value → Shared → Prop}
    (B : Below A₀ base outer h₀) (F : Fr h₀ L s.heap m) (X : (hd.heap_39 w.params).In h₀) (N : News h₀ L s.heap news) (T : Top p loose mean mg mb h₀) (hk : cs.kind = .function) (hn : ∀ p ∈ need, p ∈ news)
    (hd : d ≤ dp) (hu : u ≤ un)
    (h : P (fun r keep new => ∀ h' tk', Fr h₀ L h' m → News h₀ L h' (new ++ (keep ++ news)) → (∀ q ∈ new, LCg.Off1 q.1 (keep ++ news)) → Q r { s with heap := h', toks := tk' })) :
    wpAny (model PySem.Challenge.rw_qd0173_01.row.prog w) (ktrTop d u gd cn cs L a ccd cl outer) (call (.ref f) vs kw) Q E s :=
  C.use B F X (with_need N hn) T hk (fun _ h => nomatch h) hd hu h

/-- the same with the premises ahead of the contract (blocks run in this order) -/
theorem Tell.useQ {dp un : Nat} {w : World} {f : Addr} {vs : List Value} {kw : List (Str × Value)} {need : Led} {P : (Value → Led → Led → Prop) → Prop}
    {p : Program} {loose : List Str} {mean : ExcName → Option Value} {mg mb : Str → Option Value} {d u : Nat} {gd : Option (List Code)} {cn : Str} {cs : Scope} {a : Addr} {ccd : Value} {cl : List (Str × Addr)} {outer : List Env} {A₀ : Around} {base h₀ : Heap} {L : Addr} {m : Str → Option Value} {news : Led} {s : Shared}
    {Q E : Value → Shared → Prop}
    (B : Below A₀ base outer h₀) (F : Fr h₀ L s.heap m) (X : (hd.heap_39 w.params).In h₀) (N : News h₀ L s.heap news) (T : Top p loose mean mg mb h₀) (hk : cs.kind = .function) (hn : ∀ p ∈ need, p ∈ news)
    (hd : d ≤ dp) (hu : u ≤ un) (C : Tell dp un w f vs kw need [] P)
    (h : P (fun r keep new => ∀ h' tk', Fr h₀ L h' m → News h₀ L h' (new ++ (keep ++ news)) → (∀ q ∈ new, LCg.Off1 q.1 (keep ++ news)) → Q r { s with heap := h', toks := tk' })) :
    wpAny (model PySem.Challenge.rw_qd0173_01.row.prog w) (ktrTop d u gd cn cs L a ccd cl outer) (call (.ref f) vs kw) Q E s :=
  C.useP B F X N T hk hn hd hu h
theorem Tell.useR {dp un : Nat} {w : World} {f : Addr} {vs : List Value} {kw : List (Str × Value)} {need : Led} {P : (Value → Led → Led → Prop) → Prop}
    {p : Program} {loose : List Str} {mean : ExcName → Option Value} {mg mb : Str → Option Value} {d u : Nat} {gd : Option (List Code)} {cn : Str} {cs : Scope} {a : Addr} {ccd : Value} {cl : List (Str × Addr)} {outer : List Env} {A₀ : Around} {base h₀ : Heap} {L : Addr} {m : Str → Option Value} {news : Led} {s : Shared}
    {Q E : Value → Shared → Prop}
    (B : Below A₀ base outer h₀) (F : Fr h₀ L s.heap m) (X : (hd.heap_39 w.params).In h₀) (N : News h₀ L s.heap news) (T : Top p loose mean mg mb h₀) (hk : cs.kind = .function) (C : Tell dp un w f vs kw need [] P) (hn : ∀ p ∈ need, p ∈ news)
    (hd : d ≤ dp) (hu : u ≤ un)
    (h : P (fun r keep new => ∀ h' tk', Fr h₀ L h' m → News h₀ L h' (new ++ (keep ++ news)) → (∀ q ∈ new, LCg.Off1 q.1 (keep ++ news)) → Q r { s with heap := h', toks := tk' })) :
    wpAny (model PySem.Challenge.rw_qd0173_01.row.prog w) (ktrTop d u gd cn cs L a ccd cl outer) (call (.ref f) vs kw) Q E s :=
  C.useP B F X N T hk hn hd hu h
theorem Tell.use2 {dp un : Nat} {w : World} {f : Addr} {vs : List Value} {kw : List (Str × Value)} {need : Led} {mt : List Addr} {P : (Value → Led → Led → Prop) → Prop}
    {p : Program} {loose : List Str} {mean : ExcName → Option Value} {mg mb : Str → Option Value} {d u : Nat} {gd : Option (List Code)} {cn : Str} {cs : Scope} {a : Addr} {ccd : Value} {cl : List (Str × Addr)} {outer : List Env} {A₀ : Around} {base h₀ : Heap} {L : Addr} {m : Str → Option Value} {news : Led} {s : Shared}
    {Q E : Value → Shared → Prop}
    (B : Below A₀ base outer h₀) (F : Fr h₀ L s.heap m) (X : (hd.heap_39 w.params).In h₀) (N : News h₀ L s.heap (need ++ news)) (T : Top p loose mean mg mb h₀) (hk : cs.kind = .function)
    (hm : ∀ a ∈ mt, ∀ p ∈ news, p.1 ≠ a) (hd : d ≤ dp) (hu : u ≤ un) (C : Tell dp un w f vs kw need mt P)
    (h : P (fun r keep new => ∀ h' tk', Fr h₀ L h' m → News h₀ L h' (new ++ (keep ++ news)) → (∀ q ∈ new, LCg.Off1 q.1 (keep ++ news)) → Q r { s with heap := h', toks := tk' })) :
    wpAny (model PySem.Challenge.rw_qd0173_01.row.prog w) (ktrTop d u gd cn cs L a ccd cl outer) (call (.ref f) vs kw) Q E s :=
  C.use B F X N T hk hm hd hu h
theorem cj0 {p0 r : Prop} (h : p0 ∧ r) : p0 := h.1
theorem cj1 {p0 p1 r : Prop} (h : p0 ∧ p1 ∧ r) : p1 := h.2.1
theorem cj2 {p0 p1 p2 r : Prop} (h : p0 ∧ p1 ∧ p2 ∧ r) : p2 := h.2.2.1
theorem cj3 {p0 p1 p2 p3 r : Prop} (h : p0 ∧ p1 ∧ p2 ∧ p3 ∧ r) : p3 := h.2.2.2.1
theorem cj4 {p0 p1 p2 p3 p4 r : Prop} (h : p0 ∧ p1 ∧ p2 ∧ p3 ∧ p4 ∧ r) : p4 := h.2.2.2.2.1
theorem cj5 {p0 p1 p2 p3 p4 p5 r : Prop} (h : p0 ∧ p1 ∧ p2 ∧ p3 ∧ p4 ∧ p5 ∧ r) : p5 := h.2.2.2.2.2.1
theorem cj6 {p0 p1 p2 p3 p4 p5 p6 r : Prop} (h : p0 ∧ p1 ∧ p2 ∧ p3 ∧ p4 ∧ p5 ∧ p6 ∧ r) : p6 := h.2.2.2.2.2.2.1
theorem cj7 {p0 p1 p2 p3 p4 p5 p6 p7 r : Prop} (h : p0 ∧ p1 ∧ p2 ∧ p3 ∧ p4 ∧ p5 ∧ p6 ∧ p7 ∧ r) : p7 := h.2.2.2.2.2.2.2.1
theorem cj8 {p0 p1 p2 p3 p4 p5 p6 p7 p8 r : Prop} (h : p0 ∧ p1 ∧ p2 ∧ p3 ∧ p4 ∧ p5 ∧ p6 ∧ p7 ∧ p8 ∧ r) : p8 := h.2.2.2.2.2.2.2.2.1
theorem cj9 {p0 p1 p2 p3 p4 p5 p6 p7 p8 p9 r : Prop} (h : p0 ∧ p1 ∧ p2 ∧ p3 ∧ p4 ∧ p5 ∧ p6 ∧ p7 ∧ p8 ∧ p9 ∧ r) : p9 := h.2.2.2.2.2.2.2.2.2.1
theorem cj10 {p0 p1 p2 p3 p4 p5 p6 p7 p8 p9 p10 r : Prop} (h : p0 ∧ p1 ∧ p2 ∧ p3 ∧ p4 ∧ p5 ∧ p6 ∧ p7 ∧ p8 ∧ p9 ∧ p10 ∧ r) : p10 := h.2.2.2.2.2.2.2.2.2.2.1
theorem cj11 {p0 p1 p2 p3 p4 p5 p6 p7 p8 p9 p10 p11 r : Prop} (h : p0 ∧ p1 ∧ p2 ∧ p3 ∧ p4 ∧ p5 ∧ p6 ∧ p7 ∧ p8 ∧ p9 ∧ p10 ∧ p11 ∧ r) : p11 := h.2.2.2.2.2.2.2.2.2.2.2.1
theorem cj12 {p0 p1 p2 p3 p4 p5 p6 p7 p8 p9 p10 p11 p12 r : Prop} (h : p0 ∧ p1 ∧ p2 ∧ p3 ∧ p4 ∧ p5 ∧ p6 ∧ p7 ∧ p8 ∧ p9 ∧ p10 ∧ p11 ∧ p12 ∧ r) : p12 := h.2.2.2.2.2.2.2.2.2.2.2.2.1
theorem cj13 {p0 p1 p2 p3 p4 p5 p6 p7 p8 p9 p10 p11 p12 p13 r : Prop} (h : p0 ∧ p1 ∧ p2 ∧ p3 ∧ p4 ∧ p5 ∧ p6 ∧ p7 ∧ p8 ∧ p9 ∧ p10 ∧ p11 ∧ p12 ∧ p13 ∧ r) : p13 := h.2.2.2.2.2.2.2.2.2.2.2.2.2.1
theorem cj14 {p0 p1 p2 p3 p4 p5 p6 p7 p8 p9 p10 p11 p12 p13 p14 r : Prop} (h : p0 ∧ p1 ∧ p2 ∧ p3 ∧ p4 ∧ p5 ∧ p6 ∧ p7 ∧ p8 ∧ p9 ∧ p10 ∧ p11 ∧ p12 ∧ p13 ∧ p14 ∧ r) : p14 := h.2.2.2.2.2.2.2.2.2.2.2.2.2.2.1
theorem cj15 {p0 p1 p2 p3 p4 p5 p6 p7 p8 p9 p10 p11 p12 p13 p14 p15 r : Prop} (h : p0 ∧ p1 ∧ p2 ∧ p3 ∧ p4 ∧ p5 ∧ p6 ∧ p7 ∧ p8 ∧ p9 ∧ p10 ∧ p11 ∧ p12 ∧ p13 ∧ p14 ∧ p15 ∧ r) : p15 := h.2.2.2.2.2.2.2.2.2.2.2.2.2.2.2.1
theorem cj16 {p0 p1 p2 p3 p4 p5 p6 p7 p8 p9 p10 p11 p12 p13 p14 p15 p16 r : Prop} (h : p0 ∧ p1 ∧ p2 ∧ p3 ∧ p4 ∧ p5 ∧ p6 ∧ p7 ∧ p8 ∧ p9 ∧ p10 ∧ p11 ∧ p12 ∧ p13 ∧ p14 ∧ p15 ∧ p16 ∧ r) : p16 := h.2.2.2.2.2.2.2.2.2.2.2.2.2.2.2.2.1
theorem cj17 {p0 p1 p2 p3 p4 p5 p6 p7 p8 p9 p10 p11 p12 p13 p14 p15 p16 p17 r : Prop} (h : p0 ∧ p1 ∧ p2 ∧ p3 ∧ p4 ∧ p5 ∧ p6 ∧ p7 ∧ p8 ∧ p9 ∧ p10 ∧ p11 ∧ p12 ∧ p13 ∧ p14 ∧ p15 ∧ p16 ∧ p17 ∧ r) : p17 := h.2.2.2.2.2.2.2.2.2.2.2.2.2.2.2.2.2.1
theorem cj18 {p0 p1 p2 p3 p4 p5 p6 p7 p8 p9 p10 p11 p12 p13 p14 p15 p16 p17 p18 r : Prop} (h : p0 ∧ p1 ∧ p2 ∧ p3 ∧ p4 ∧ p5 ∧ p6 ∧ p7 ∧ p8 ∧ p9 ∧ p10 ∧ p11 ∧ p12 ∧ p13 ∧ p14 ∧ p15 ∧ p16 ∧ p17 ∧ p18 ∧ r) : p18 := h.2.2.2.2.2.2.2.2.2.2.2.2.2.2.2.2.2.2.1
theorem cj19 {p0 p1 p2 p3 p4 p5 p6 p7 p8 p9 p10 p11 p12 p13 p14 p15 p16 p17 p18 p19 r : Prop} (h : p0 ∧ p1 ∧ p2 ∧ p3 ∧ p4 ∧ p5 ∧ p6 ∧ p7 ∧ p8 ∧ p9 ∧ p10 ∧ p11 ∧ p12 ∧ p13 ∧ p14 ∧ p15 ∧ p16 ∧ p17 ∧ p18 ∧ p19 ∧ r) : p19 := h.2.2.2.2.2.2.2.2.2.2.2.2.2.2.2.2.2.2.2.1
theorem cj20 {p0 p1 p2 p3 p4 p5 p6 p7 p8 p9 p10 p11 p12 p13 p14 p15 p16 p17 p18 p19 p20 r : Prop} (h : p0 ∧ p1 ∧ p2 ∧ p3 ∧ p4 ∧ p5 ∧ p6 ∧ p7 ∧ p8 ∧ p9 ∧ p10 ∧ p11 ∧ p12 ∧ p13 ∧ p14 ∧ p15 ∧ p16 ∧ p17 ∧ p18 ∧ p19 ∧ p20 ∧ r) : p20 := h.2.2.2.2.2.2.2.2.2.2.2.2.2.2.2.2.2.2.2.2.1
theorem cj21 {p0 p1 p2 p3 p4 p5 p6 p7 p8 p9 p10 p11 p12 p13 p14 p15 p16 p17 p18 p19 p20 p21 r : Prop} (h : p0 ∧ p1 ∧ p2 ∧ p3 ∧ p4 ∧ p5 ∧ p6 ∧ p7 ∧ p8 ∧ p9 ∧ p10 ∧ p11 ∧ p12 ∧ p13 ∧ p14 ∧ p15 ∧ p16 ∧ p17 ∧ p18 ∧ p19 ∧ p20 ∧ p21 ∧ r) : p21 := h.2.2.2.2.2.2.2.2.2.2.2.2.2.2.2.2.2.2.2.2.2.1
theorem cj22 {p0 p1 p2 p3 p4 p5 p6 p7 p8 p9 p10 p11 p12 p13 p14 p15 p16 p17 p18 p19 p20 p21 p22 r : Prop} (h : p0 ∧ p1 ∧ p2 ∧ p3 ∧ p4 ∧ p5 ∧ p6 ∧ p7 ∧ p8 ∧ p9 ∧ p10 ∧ p11 ∧ p12 ∧ p13 ∧ p14 ∧ p15 ∧ p16 ∧ p17 ∧ p18 ∧ p19 ∧ p20 ∧ p21 ∧ p22 ∧ r) : p22 := h.2.2.2.2.2.2.2.2.2.2.2.2.2.2.2.2.2.2.2.2.2.2.1
theorem cj23 {p0 p1 p2 p3 p4 p5 p6 p7 p8 p9 p10 p11 p12 p13 p14 p15 p16 p17 p18 p19 p20 p21 p22 p23 r : Prop} (h : p0 ∧ p1 ∧ p2 ∧ p3 ∧ p4 ∧ p5 ∧ p6 ∧ p7 ∧ p8 ∧ p9 ∧ p10 ∧ p11 ∧ p12 ∧ p13 ∧ p14 ∧ p15 ∧ p16 ∧ p17 ∧ p18 ∧ p19 ∧ p20 ∧ p21 ∧ p22 ∧ p23 ∧ r) : p23 := h.2.2.2.2.2.2.2.2.2.2.2.2.2.2.2.2.2.2.2.2.2.2.2.1
theorem cj24 {p0 p1 p2 p3 p4 p5 p6 p7 p8 p9 p10 p11 p12 p13 p14 p15 p16 p17 p18 p19 p20 p21 p22 p23 p24 r : Prop} (h : p0 ∧ p1 ∧ p2 ∧ p3 ∧ p4 ∧ p5 ∧ p6 ∧ p7 ∧ p8 ∧ p9 ∧ p10 ∧ p11 ∧ p12 ∧ p13 ∧ p14 ∧ p15 ∧ p16 ∧ p17 ∧ p18 ∧ p19 ∧ p20 ∧ p21 ∧ p22 ∧ p23 ∧ p24 ∧ r) : p24 := h.2.2.2.2.2.2.2.2.2.2.2.2.2.2.2.2.2.2.2.2.2.2.2.2.1
theorem cj25 {p0 p1 p2 p3 p4 p5 p6 p7 p8 p9 p10 p11 p12 p13 p14 p15 p16 p17 p18 p19 p20 p21 p22 p23 p24 p25 r : Prop} (h : p0 ∧ p1 ∧ p2 ∧ p3 ∧ p4 ∧ p5 ∧ p6 ∧ p7 ∧ p8 ∧ p9 ∧ p10 ∧ p11 ∧ p12 ∧ p13 ∧ p14 ∧ p15 ∧ p16 ∧ p17 ∧ p18 ∧ p19 ∧ p20 ∧ p21 ∧ p22 ∧ p23 ∧ p24 ∧ p25 ∧ r) : p25 := h.2.2.2.2.2.2.2.2.2.2.2.2.2.2.2.2.2.2.2.2.2.2.2.2.2.1
theorem ne_l {a b : Nat} (h : a < b) : a ≠ b := Nat.ne_of_lt h
theorem ne_r {a b : Nat} (h : b < a) : a ≠ b := Nat.ne_of_gt h
theorem qn1 {a b c : Nat} (h : a ≤ b) (k : b ≤ c) : a ≤ c := Nat.le_trans h k
theorem qn2 {a b c : Nat} (h : a < b) (k : b ≤ c) : a ≤ c := Nat.le_trans (Nat.le_of_lt h) k
theorem qn3 {a b c : Nat} (h : a ≤ b) (k : b < c) : a < c := Nat.lt_of_le_of_lt h k
theorem qn4 {a b c : Nat} (h : a < b) (k : b ≤ c) : a < c := Nat.lt_of_lt_of_le h k
theorem qn5 {a b c d : Nat} (h : a ≤ b) (k : b + d ≤ c) : a + d ≤ c := Nat.le_trans (Nat.add_le_add_right h d) k
theorem qn6 {a b c d e : Nat} (h : a ≤ b) (h2 : d ≤ e) (k : b + e ≤ c) : a + d ≤ c := Nat.le_trans (Nat.add_le_add h h2) k
theorem qn6b {a b c d e f : Nat} (h : a ≤ b) (h2 : d ≤ e) (k : b + f + e ≤ c) : a + f + d ≤ c := Nat.le_trans (Nat.add_le_add (Nat.add_le_add_right h f) h2) k
theorem qn6c {a b c d e : Nat} (h : a = b) (h2 : d ≤ e) (k : b + e ≤ c) : a + d ≤ c := qn6 (Nat.le_of_eq h) h2 k
theorem qn7 {a b c i : Nat} (e : a = i) (h : i < b) (k : b ≤ c) : a ≤ c := e ▸ qn2 h k
theorem qn8 {a b c i : Nat} (e : a = i) (h : i ≤ b) (k : b ≤ c) : a ≤ c := e ▸ qn1 h k
theorem qn9 {i c : Nat} {r b : Int} (h : i < r.toNat) (h2 : r ≤ b) (k : b ≤ (c : Int)) : i < c := Nat.lt_of_lt_of_le h (Int.toNat_le.mpr (Int.le_trans h2 k))
theorem qn10 {a c : Nat} {r b : Int} (e : a = r.toNat) (h2 : r ≤ b) (k : b ≤ (c : Int)) : a ≤ c := e ▸ Int.toNat_le.mpr (Int.le_trans h2 k)
theorem qn11 {a b c : Nat} (h : b ≤ a) (k : c ≤ b) : c ≤ a := Nat.le_trans k h
theorem qn12 {i c : Nat} {q b : Int} (h : i < (1 + q).toNat) (h2 : q < b) (k : b ≤ (c : Int)) : i < c := Nat.lt_of_lt_of_le h (Int.toNat_le.mpr (Int.le_trans (Int.add_comm 1 q ▸ Int.add_one_le_of_lt h2) k))
theorem qn13 {c : Nat} {q b : Int} (h2 : q < b) (k : b ≤ (c : Int)) : (1 + q).toNat ≤ c := Int.toNat_le.mpr (Int.le_trans (Int.add_comm 1 q ▸ Int.add_one_le_of_lt h2) k)
theorem qn14 {a c : Nat} {q b : Int} (e : a = (1 + q).toNat) (h2 : q < b) (k : b ≤ (c : Int)) : a ≤ c := e ▸ qn13 h2 k
theorem qi1 {a b c : Int} (h : a ≤ b) (k : b ≤ c) : a ≤ c := Int.le_trans h k
theorem qi2 {a b c : Int} (h : a < b) (k : b ≤ c) : a ≤ c := Int.le_trans (Int.le_of_lt h) k
theorem qi3 {a b c : Int} (h : a ≤ b) (k : b < c) : a < c := Int.lt_of_le_of_lt h k
theorem qi4 {a b c : Int} (h : a < b) (k : b ≤ c) : a < c := Int.lt_of_lt_of_le h k
theorem qi5 {a b c : Int} (h : b ≤ a) (k : c ≤ b) : c ≤ a := Int.le_trans k h
theorem qi6 {a b c : Int} (h : b < a) (k : c ≤ b) : c ≤ a := Int.le_trans k (Int.le_of_lt h)
theorem qi7 {a b c : Int} (h : b ≤ a) (k : c < b) : c < a := Int.lt_of_lt_of_le k h
theorem qi8 {a b c : Int} (h : b < a) (k : c ≤ b) : c < a := Int.lt_of_le_of_lt k h
theorem qi9 {a b c d : Int} (h : a < b) (k : b - d ≤ c) : a - d < c := Int.lt_of_lt_of_le (Int.sub_lt_sub_right h d) k
theorem qi10 {a b c d : Int} (h : b ≤ a) (k : c ≤ b - d) : c ≤ a - d := Int.le_trans k (Int.sub_le_sub_right h d)
theorem qc1 {i n : Nat} {c : Int} (h : i < n) (k : (n : Int) ≤ c) : 0 + (i : Int) < c := by rw [Int.zero_add]; exact Int.lt_of_lt_of_le (Int.ofNat_lt.mpr h) k
theorem qc2 {i n : Nat} {c : Int} (h : i < n) (k : (n : Int) ≤ c) : 0 + (i : Int) ≤ c := Int.le_of_lt (qc1 h k)
theorem qc3 {i n : Nat} {c : Int} (h : i < n) (k : (n : Int) + 1 ≤ c) : 0 + (i : Int) + 1 < c := Int.lt_of_lt_of_le (Int.add_lt_add_right (qc1 h (Int.le_refl _)) 1) k
theorem qc4 {i n : Nat} {c : Int} (h : i < n) (k : (n : Int) ≤ c) : 0 + (i : Int) + 1 ≤ c := Int.le_trans (Int.add_one_le_of_lt (qc1 h (Int.le_refl _))) k
theorem qc5 {i : Nat} {c : Int} (k : c ≤ 0) : c ≤ 0 + (i : Int) := by rw [Int.zero_add]; exact Int.le_trans k (Int.natCast_nonneg i)
theorem qc6 {i : Nat} {c : Int} (k : c < 0) : c < 0 + (i : Int) := Int.lt_of_lt_of_le k (qc5 (Int.le_refl _))
theorem qc7 {i : Nat} {c : Int} (k : c ≤ 0) : c ≤ 0 + (i : Int) + 1 := Int.le_trans (qc5 k) (Int.le_of_lt (Int.lt_add_one_of_le (Int.le_refl _)))
theorem qc8 {i : Nat} {c : Int} (k : c < 0) : c < 0 + (i : Int) + 1 := Int.lt_of_lt_of_le k (qc7 (Int.le_refl _))
theorem qc9 {n b : Nat} {c : Int} (h : n ≤ b) (k : (b : Int) < c) : (n : Int) < c := Int.lt_of_le_of_lt (Int.ofNat_le.mpr h) k
theorem qc10 {n b : Nat} {c : Int} (h : n ≤ b) (k : (b : Int) < c) : ¬ (n : Int) ≥ c := Int.not_le.mpr (qc9 h k)
theorem qc11 {n : Nat} {c : Int} (k : c ≤ 0) : c ≤ (n : Int) := Int.le_trans k (Int.natCast_nonneg n)
theorem qc12 {n : Nat} {c : Int} (k : c < 0) : c < (n : Int) := Int.lt_of_lt_of_le k (Int.natCast_nonneg n)
theorem qc13 {n b : Nat} {c : Int} (h : n ≤ b) (k : (b : Int) ≤ c) : (n : Int) ≤ c := Int.le_trans (Int.ofNat_le.mpr h) k
theorem qq1 {q b c : Int} (h : b ≤ q) (k : c ≤ 1 + b) : c ≤ 1 + q := Int.le_trans k (Int.add_le_add_left h 1)
theorem qq2 {q b c : Int} (h : q < b) (k : b ≤ c) : 1 + q ≤ c := Int.le_trans (Int.add_comm 1 q ▸ Int.add_one_le_of_lt h) k
theorem mx2 {M : Int} {a b k : Nat} (e : M = (a : Int) ∨ M = (b : Int)) (ha : a ≤ k) (hb : b ≤ k) : M.toNat ≤ k := by
  rcases e with rfl | rfl
  · exact ha
  · exact hb
theorem mx3 {M : Int} {a b c k : Nat} (e : M = (a : Int) ∨ M = (b : Int) ∨ M = (c : Int)) (ha : a ≤ k) (hb : b ≤ k) (hc : c ≤ k) : M.toNat ≤ k := by
  rcases e with rfl | e
  · exact ha
  · exact mx2 e hb hc
theorem mxi2 {M C : Int} {a b k : Nat} (e : M = (a : Int) ∨ M = (b : Int)) (ha : a ≤ k) (hb : b ≤ k) (d : (k : Int) < C) : M < C := Int.lt_of_le_of_lt (Int.toNat_le.mp (mx2 e ha hb)) d
theorem mxi3 {M C : Int} {a b c k : Nat} (e : M = (a : Int) ∨ M = (b : Int) ∨ M = (c : Int)) (ha : a ≤ k) (hb : b ≤ k) (hc : c ≤ k) (d : (k : Int) < C) : M < C := Int.lt_of_le_of_lt (Int.toNat_le.mp (mx3 e ha hb hc)) d
theorem qm1 {d c m b1 b2 C : Nat} (h1 : d ≤ b1) (h2 : c ≤ b2) (h3 : m ≤ b2) (k : b1 + (1 + b2) ≤ C) : d + (1 + max c m) ≤ C := Nat.le_trans (Nat.add_le_add h1 (Nat.add_le_add_left (Nat.max_le.mpr ⟨h2, h3⟩) 1)) k
theorem qm2 {c m b C : Nat} (h2 : c ≤ b) (h3 : m ≤ b) (k : 1 + b ≤ C) : 1 + max c m ≤ C := Nat.le_trans (Nat.add_le_add_left (Nat.max_le.mpr ⟨h2, h3⟩) 1) k
theorem qc14 {n : Nat} {M c : Int} {R : Prop} (h : (n : Int) ≤ M ∧ R) (k : c < 0) : c < M := Int.lt_of_lt_of_le k (Int.le_trans (Int.natCast_nonneg n) h.1)
theorem qe1 {i : Nat} : (0 + (i : Int)).toNat = i := by rw [Int.zero_add]; exact Int.toNat_natCast i
theorem qe2 {i : Nat} : i = (0 + (i : Int)).toNat := qe1.symm
theorem su {a b : Nat} (h : a ≠ b) : a + 1 ≠ b + 1 := fun e => h (Nat.succ.inj e)
theorem sd1 {x : Nat} : x ≠ x + 1 := Nat.ne_of_lt (Nat.lt_succ_self _)
theorem se1 {x : Nat} : x + 1 ≠ x := Nat.ne_of_gt (Nat.lt_succ_self _)
theorem nu1 {x y : Nat} (h : y < x) : x + 1 ≠ y := Nat.ne_of_gt (Nat.lt_succ_of_lt (h))
theorem nv1 {x y : Nat} (h : y < x) : y ≠ x + 1 := Nat.ne_of_lt (Nat.lt_succ_of_lt (h))
theorem sd2 {x : Nat} : x ≠ x + 1 + 1 := Nat.ne_of_lt (Nat.lt_succ_of_lt (Nat.lt_succ_self _))
theorem se2 {x : Nat} : x + 1 + 1 ≠ x := Nat.ne_of_gt (Nat.lt_succ_of_lt (Nat.lt_succ_self _))
theorem nu2 {x y : Nat} (h : y < x) : x + 1 + 1 ≠ y := Nat.ne_of_gt (Nat.lt_succ_of_lt (Nat.lt_succ_of_lt (h)))
theorem nv2 {x y : Nat} (h : y < x) : y ≠ x + 1 + 1 := Nat.ne_of_lt (Nat.lt_succ_of_lt (Nat.lt_succ_of_lt (h)))
theorem sd3 {x : Nat} : x ≠ x + 1 + 1 + 1 := Nat.ne_of_lt (Nat.lt_succ_of_lt (Nat.lt_succ_of_lt (Nat.lt_succ_self _)))
theorem se3 {x : Nat} : x + 1 + 1 + 1 ≠ x := Nat.ne_of_gt (Nat.lt_succ_of_lt (Nat.lt_succ_of_lt (Nat.lt_succ_self _)))
theorem nu3 {x y : Nat} (h : y < x) : x + 1 + 1 + 1 ≠ y := Nat.ne_of_gt (Nat.lt_succ_of_lt (Nat.lt_succ_of_lt (Nat.lt_succ_of_lt (h))))
theorem nv3 {x y : Nat} (h : y < x) : y ≠ x + 1 + 1 + 1 := Nat.ne_of_lt (Nat.lt_succ_of_lt (Nat.lt_succ_of_lt (Nat.lt_succ_of_lt (h))))
theorem sd4 {x : Nat} : x ≠ x + 1 + 1 + 1 + 1 := Nat.ne_of_lt (Nat.lt_succ_of_lt (Nat.lt_succ_of_lt (Nat.lt_succ_of_lt (Nat.lt_succ_self _))))
theorem se4 {x : Nat} : x + 1 + 1 + 1 + 1 ≠ x := Nat.ne_of_gt (Nat.lt_succ_of_lt (Nat.lt_succ_of_lt (Nat.lt_succ_of_lt (Nat.lt_succ_self _))))
theorem nu4 {x y : Nat} (h : y < x) : x + 1 + 1 + 1 + 1 ≠ y := Nat.ne_of_gt (Nat.lt_succ_of_lt (Nat.lt_succ_of_lt (Nat.lt_succ_of_lt (Nat.lt_succ_of_lt (h)))))
theorem nv4 {x y : Nat} (h : y < x) : y ≠ x + 1 + 1 + 1 + 1 := Nat.ne_of_lt (Nat.lt_succ_of_lt (Nat.lt_succ_of_lt (Nat.lt_succ_of_lt (Nat.lt_succ_of_lt (h)))))
theorem sd5 {x : Nat} : x ≠ x + 1 + 1 + 1 + 1 + 1 := Nat.ne_of_lt (Nat.lt_succ_of_lt (Nat.lt_succ_of_lt (Nat.lt_succ_of_lt (Nat.lt_succ_of_lt (Nat.lt_succ_self _)))))
theorem se5 {x : Nat} : x + 1 + 1 + 1 + 1 + 1 ≠ x := Nat.ne_of_gt (Nat.lt_succ_of_lt (Nat.lt_succ_of_lt (Nat.lt_succ_of_lt (Nat.lt_succ_of_lt (Nat.lt_succ_self _)))))
theorem nu5 {x y : Nat} (h : y < x) : x + 1 + 1 + 1 + 1 + 1 ≠ y := Nat.ne_of_gt (Nat.lt_succ_of_lt (Nat.lt_succ_of_lt (Nat.lt_succ_of_lt (Nat.lt_succ_of_lt (Nat.lt_succ_of_lt (h))))))
theorem nv5 {x y : Nat} (h : y < x) : y ≠ x + 1 + 1 + 1 + 1 + 1 := Nat.ne_of_lt (Nat.lt_succ_of_lt (Nat.lt_succ_of_lt (Nat.lt_succ_of_lt (Nat.lt_succ_of_lt (Nat.lt_succ_of_lt (h))))))
theorem sd6 {x : Nat} : x ≠ x + 1 + 1 + 1 + 1 + 1 + 1 := Nat.ne_of_lt (Nat.lt_succ_of_lt (Nat.lt_succ_of_lt (Nat.lt_succ_of_lt (Nat.lt_succ_of_lt (Nat.lt_succ_of_lt (Nat.lt_succ_self _))))))
theorem se6 {x : Nat} : x + 1 + 1 + 1 + 1 + 1 + 1 ≠ x := Nat.ne_of_gt (Nat.lt_succ_of_lt (Nat.lt_succ_of_lt (Nat.lt_succ_of_lt (Nat.lt_succ_of_lt (Nat.lt_succ_of_lt (Nat.lt_succ_self _))))))
theorem nu6 {x y : Nat} (h : y < x) : x + 1 + 1 + 1 + 1 + 1 + 1 ≠ y := Nat.ne_of_gt (Nat.lt_succ_of_lt (Nat.lt_succ_of_lt (Nat.lt_succ_of_lt (Nat.lt_succ_of_lt (Nat.lt_succ_of_lt (Nat.lt_succ_of_lt (h)))))))
theorem nv6 {x y : Nat} (h : y < x) : y ≠ x + 1 + 1 + 1 + 1 + 1 + 1 := Nat.ne_of_lt (Nat.lt_succ_of_lt (Nat.lt_succ_of_lt (Nat.lt_succ_of_lt (Nat.lt_succ_of_lt (Nat.lt_succ_of_lt (Nat.lt_succ_of_lt (h)))))))
theorem sd7 {x : Nat} : x ≠ x + 1 + 1 + 1 + 1 + 1 + 1 + 1 := Nat.ne_of_lt (Nat.lt_succ_of_lt (Nat.lt_succ_of_lt (Nat.lt_succ_of_lt (Nat.lt_succ_of_lt (Nat.lt_succ_of_lt (Nat.lt_succ_of_lt (Nat.lt_succ_self _)))))))
theorem se7 {x : Nat} : x + 1 + 1 + 1 + 1 + 1 + 1 + 1 ≠ x := Nat.ne_of_gt (Nat.lt_succ_of_lt (Nat.lt_succ_of_lt (Nat.lt_succ_of_lt (Nat.lt_succ_of_lt (Nat.lt_succ_of_lt (Nat.lt_succ_of_lt (Nat.lt_succ_self _)))))))
theorem nu7 {x y : Nat} (h : y < x) : x + 1 + 1 + 1 + 1 + 1 + 1 + 1 ≠ y := Nat.ne_of_gt (Nat.lt_succ_of_lt (Nat.lt_succ_of_lt (Nat.lt_succ_of_lt (Nat.lt_succ_of_lt (Nat.lt_succ_of_lt (Nat.lt_succ_of_lt (Nat.lt_succ_of_lt (h))))))))
theorem nv7 {x y : Nat} (h : y < x) : y ≠ x + 1 + 1 + 1 + 1 + 1 + 1 + 1 := Nat.ne_of_lt (Nat.lt_succ_of_lt (Nat.lt_succ_of_lt (Nat.lt_succ_of_lt (Nat.lt_succ_of_lt (Nat.lt_succ_of_lt (Nat.lt_succ_of_lt (Nat.lt_succ_of_lt (h))))))))
theorem id_prop {p : Prop} (h : p) : p := h
theorem drop_to {h₀ h : Heap} {L : Addr} {l l' : Led} (N : News h₀ L h l) (hs : ∀ p ∈ l', p ∈ l) : News h₀ L h l' := fun p hp => N p (hs p hp)
theorem drop_at {h₀ h : Heap} {L : Addr} {l : Led} (k : Nat) (N : News h₀ L h l) : News h₀ L h (l.eraseIdx k) := drop_to N fun _ hp => List.mem_of_mem_eraseIdx hp

theorem hret' {h₀ h : Heap} {L : Addr} {m : Str → Option Value} {news : Led} {s : Shared} {Q : Value → Shared → Prop} {x y : Int} {t : Tok} {tk' : Nat}
    (hret : ∀ h' tk', Fr h₀ L h' m → News h₀ L h' ([] ++ ([] ++ news)) → (∀ q ∈ ([] : Led), LCg.Off1 q.1 ([] ++ news)) → Q (.int x t) { s with heap := h', toks := tk' }) (e : y = x) (F : Fr h₀ L h m) (N : News h₀ L h news) : Q (.int y t) { s with heap := h, toks := tk' } := by
  subst e
  exact hret _ _ F N (fun _ h => nomatch h)
theorem prime : (fun (_ : PySem.W.OpenLaw) (_ : Params → Frag) => True) PySem.Challenge.rw_qd0173_01 hd.heap_39 := by
  k_fill
  trivial
theorem off_Bb : True := by
  w_top off
  trivial
-- part Bb
def Held (P : Prop) : Prop := P
theorem to_held {P : Prop} (h : Held P) : P := h
theorem of_held {P : Prop} (h : P) : Held P := h
local macro_rules | `(tactic| walk_at "tell enter") => `(tactic| (refine wpAny_call ?_; k_dflt (refine' code_def ?k1 ?k2 ?k3 ?k4 ?k5 ?kA ?kF ?kK ?k6 ?k7 ?k8 ?k9 ?kB ?_ ?c2 ?c3 ?c4 ?c5; (case kA => exact rfl); (case kF => exact rfl); (case kK => first | exact rfl | assumption); (case k1 => k_asm); (case k2 => k_asm); (case k3 => k_asm); (case k4 => k_asm); (case k5 => k_asm); (case k6 => k_is); (case k7 => k_is); (case k8 => exact Nat.le_of_ble_eq_true rfl); (case k9 => first | exact BindsTo.of_eq rfl | exact binds_K (by k_in) rfl (by k_is) rfl rfl rfl | fail "tell enter: no rule for these arguments"); (case c5 => decide); (case kB => exact locs rfl); (case c2 => exact rfl); (case c3 => exact rfl); (case c4 => exact rfl); k_whole); intro g' L' h' FG' F' N' B' X' T'; (try dsimp only); (try k_lift B'); (try k_fold)))
theorem ln_Bb1 : True := by
  k_with "tell start" => ((unfold Tell; intro pzz loosezz meanzz mgzz mbzz gdzz cnzz cszz cazz ccdzz clzz outerzz A₀zz basezz h₀zz Lzz mzz newszz szz Qzz Ezz Bzz Fzz Xzz Nzz Tzz hkzz hsepzz hretzz; simp only [List.cons_append, List.nil_append] at Nzz; walk_at "tell enter"))
  trivial
local macro_rules | `(tactic| walk_at "tell enterC") => `(tactic| (refine wpAny_call ?_; k_dflt (refine' code_defC ?k1 ?k2 ?k3 ?k4 ?k5 ?kA ?kF ?kK ?k6 ?k7 ?k8 ?k9 ?kB ?kD ?_ ?c2 ?c3 ?c4; (case kA => exact rfl); (case kF => exact rfl); (case kK => first | exact rfl | assumption); (case k1 => k_asm); (case k2 => k_asm); (case k3 => k_asm); (case k4 => k_asm); (case k5 => k_asm); (case k6 => k_is); (case k7 => k_is); (case k8 => exact Nat.le_of_ble_eq_true rfl); (case k9 => first | exact BindsTo.of_eq rfl | exact binds_K (by k_in) rfl (by k_is) rfl rfl rfl | fail "tell enterC: no rule for these arguments"); (case kB => exact rfl); (case kD => decide +kernel); (case c2 => exact rfl); (case c3 => exact rfl); (case c4 => exact rfl); k_whole); intro g' L' h' tk' cells' FG' F' N' Y' B' X' T' l1; (try k_lt l1); k_cells Y'; (try simp only [List.cons_append, List.nil_append] at N'); (try dsimp only); (try k_lift B'); (try k_fold)))
theorem ln_Bb2 : True := by
  k_with "my @call ref" => ((k_here; (with_reducible show wpAny _ _ (call (Value.ref _) _ _) _ _ _); first | walk_at "tell enter" | walk_at "tell enterC"))
  trivial
theorem off_Bc : True := by
  w_top off
  trivial
-- part Bc
theorem rjust_list (x : Str) (k : Int) : (Txt.rjust x k).cps.toList = List.replicate (k.toNat - x.length) 32 ++ x.cps.toList := by
  unfold Txt.rjust
  split
  · rename_i h
    have e : k.toNat - x.length = 0 := by omega
    rw [e]; simp
  · rw [padded_list]; simp
theorem ljust_list (x : Str) (k : Int) : (Txt.ljust x k).cps.toList = x.cps.toList ++ List.replicate (k.toNat - x.length) 32 := by
  unfold Txt.ljust
  split
  · rename_i h
    have e : k.toNat - x.length = 0 := by omega
    rw [e]; simp
  · rw [padded_list]; simp
theorem rjust_len (x : Str) (k : Int) : (Txt.rjust x k).length = max x.length k.toNat := by
  rw [len_of_list (rjust_list x k)]
  have h : x.cps.toList.length = x.length := by simp [Str.length]
  simp only [List.length_append, List.length_replicate, h]
  omega
theorem ljust_len (x : Str) (k : Int) : (Txt.ljust x k).length = max x.length k.toNat := by
  rw [len_of_list (ljust_list x k)]
  have h : x.cps.toList.length = x.length := by simp [Str.length]
  simp only [List.length_append, List.length_replicate, h]
  omega
theorem mul_one' (x : Str) : Txt.mul x 1 = x := by
  unfold Txt.mul
  simp
theorem pow18 : (10 : Int) ^ (Int.toNat 18) = 1000000000000000000 := by decide
theorem len_space : (Str.ofString " ").length = 1 := by decide
theorem len_minus : (Str.ofString "-").length = 1 := by decide
theorem len_nil : (Str.ofString "").length = 0 := by decide
theorem len_dot : (Str.ofString ".").length = 1 := by decide

section
variable {prog : Program} {w : World} {A : Around} {E : Value → Shared → Prop} {s : Shared} {x y : Str} {t u : Tok} {Q : Value → Shared → Prop}
theorem add_ (hs : x.length + y.length ≤ 16777216) (h : ∀ t' k, Q (.str (x ++ y) t') { s with toks := k }) : wpAny (model prog w) A (binaryOp .Add (.str x t) (.str y u)) Q E s :=
  SBL.add (fun t' k _ => h t' k) (by rw [sizeLine_eq]; omega)
theorem inplace_add_ (hs : x.length + y.length ≤ 16777216) (h : ∀ t' k, Q (.str (x ++ y) t') { s with toks := k }) : wpAny (model prog w) A (inplaceOp .Add (.str x t) (.str y u)) Q E s :=
  iadd_str (fun t' k => h t' k) (by rw [sizeLine_eq]; omega)
theorem in_no (e : (Builtin.Str.occurrences x y 0 x.length 1).isEmpty = true) (h : Q (.bool false) s) : wpAny (model prog w) A (compareOp .In (.str y u) (.str x t)) Q E s :=
  in_str (by rw [e]; exact h)
end
theorem sum_le {B : Nat} : ∀ {ys : List Str}, (∀ y ∈ ys, y.length ≤ B) → (ys.map (·.length)).sum ≤ ys.length * B
  | [], _ => by simp
  | y :: r, h => by
    have h1 := h y (.head _)
    have h2 := sum_le fun z hz => h z (.tail _ hz)
    simp only [List.map_cons, List.sum_cons, List.length_cons, Nat.succ_mul]
    omega
theorem k_join {prog : Program} {w : World} {A : Around} {E : Value → Shared → Prop} {s : Shared} {t : Tok} {Q : Value → Shared → Prop} {h₀ : Heap} {L D : Addr} {news : Led} {items : Array Value} {n : Nat} {ys : List Str} (N : News h₀ L s.heap news) (hm : (D, W.listOf items n) ∈ news) (hi : StrsAre items.toList ys)
    (hB : ∀ y ∈ ys, y.length ≤ 100000) (hn : ys.length ≤ 100)
    (h : ∀ t' k, Q (.str (Txt.join (Str.ofString "") ys) t') { s with toks := k }) : wpAny (model prog w) A (call (.builtin "str.join") [.str (Str.ofString "") t, .ref D]) Q E s := by
  refine join_list (News.isList N hm) hi ?_ h
  have h1 := sum_le hB
  rw [show (Str.ofString "").length = 0 from by decide]
  omega
theorem neg_text {k : Int} (h : k < 0) : Str.ofString (toString k) = Str.ofString "-" ++ Str.ofString (toString (-k)) := by
  obtain ⟨m, rfl⟩ := Int.eq_negSucc_of_lt_zero h
  have e : toString (Int.negSucc m) = "-" ++ toString (-(Int.negSucc m)) := by
    rw [Int.neg_negSucc]
    rfl
  rw [e]
  rw [Str.ofString_eq_toList, Str.ofString_eq_toList, Str.ofString_eq_toList]
  refine Str.ext' ?_
  simp [Str.cps_append]
def cat : List Str → Str
  | [] => Str.empty
  | x :: r => x ++ cat r
theorem cat_cps : ∀ ys : List Str, (cat ys).cps.toList = ys.flatMap fun y => y.cps.toList
  | [] => rfl
  | x :: r => by
    show (x ++ cat r).cps.toList = _
    rw [Str.cps_append, Array.toList_append, cat_cps r, List.flatMap_cons]
theorem app_empty (x : Str) : x ++ Str.empty = x := Str.ext' (by rw [Str.cps_append]; exact Array.append_empty)
theorem foldl_cat : ∀ (l : List Str) (a : Array Nat), (l.foldl (fun acc p => acc ++ #[] ++ p.cps) a).toList = a.toList ++ l.flatMap fun y => y.cps.toList
  | [], a => by simp
  | x :: r, a => by
    rw [List.foldl_cons, foldl_cat r, List.flatMap_cons]
    simp
theorem join_cat (ys : List Str) : Txt.join (Str.ofString "") ys = cat ys := by
  have e : (Str.ofString "").cps = #[] := by decide +kernel
  refine Str.ext' (Array.ext' ?_)
  rw [cat_cps]
  unfold Txt.join Builtin.Str.glued
  rw [e]
  cases ys with
  | nil => rfl
  | cons x r =>
    show (r.foldl _ x.cps).toList = _
    rw [foldl_cat, List.flatMap_cons]
theorem num_len {k : Int} (h0 : 0 ≤ k) (h1 : k < 10 ^ 10) : (Str.ofString (toString k)).length ≤ 10 := KT.len_num h0 h1
theorem pop0 {prog : Program} {w : World} {A : Around} {E : Value → Shared → Prop} {s : Shared} {h₀ : Heap} {L D : Addr} {m : Str → Option Value} {news news' : Led} {n : Nat} {y : Value} {q : List Value} {u : Tok} {Q : Value → Shared → Prop}
    (F : Fr h₀ L s.heap m) (N : News h₀ L s.heap news) (U : Upd D (lst (y :: q) n) (lst q (n + 1)) news news') (hz : (y :: q).length ≤ 1000)
    (h : ∀ h', Fr h₀ L h' m → News h₀ L h' news' → Q y { s with heap := h' }) : wpAny (model prog w) A (call (.builtin "list.pop") [.ref D, .int 0 u]) Q E s := by
  refine kl_popAt (k := 0) (p := []) (q := q) (y := y) (its := (y :: q).toArray) F N rfl ?_ rfl U ?_ h
  · unfold seqIndex?
    simp
  · rw [sizeLine_eq]
    show (y :: q).length ≤ _
    omega
theorem ne_of_all {d : Addr} {l : Led} (h : AllLt d l) : ∀ p ∈ l, p.1 ≠ d := fun p hp => Nat.ne_of_lt (tb_ltOf h p hp)
theorem off_lt {D : Addr} : ∀ {l : Led}, AllLt D l → LCg.Off1 D l
  | [], _ => trivial
  | _ :: _, h => ⟨Nat.ne_of_lt h.1, off_lt h.2⟩
theorem off_all {D : Addr} : ∀ {l : Led}, (∀ p ∈ l, p.1 < D) → LCg.Off1 D l
  | [], _ => trivial
  | q :: _, h => ⟨Nat.ne_of_lt (h q (.head _)), off_all fun p hp => h p (.tail _ hp)⟩
theorem off_of {D : Addr} : ∀ {l : Led}, (∀ p ∈ l, p.1 ≠ D) → LCg.Off1 D l
  | [], _ => trivial
  | q :: _, h => ⟨h q (.head _), off_of fun p hp => h p (.tail _ hp)⟩
theorem off_mem {D : Addr} : ∀ {l : Led}, LCg.Off1 D l → ∀ p ∈ l, p.1 ≠ D
  | [], _, _, h => nomatch h
  | _ :: _, x, p, h => by
    rcases List.mem_cons.mp h with rfl | h
    · exact x.1
    · exact off_mem x.2 p h
theorem above0 {l : Led} : ∀ q ∈ ([] : Led), LCg.Off1 q.1 l := fun _ h => nomatch h
theorem aboveC {D : Addr} {o : Obj} {r l : Led} (h : LCg.Off1 D l) (hr : ∀ q ∈ r, LCg.Off1 q.1 l) : ∀ q ∈ (D, o) :: r, LCg.Off1 q.1 l := fun q hq => by
  rcases List.mem_cons.mp hq with rfl | hq
  · exact h
  · exact hr q hq
def Dif (a b : Addr) : Prop := @Ne Nat a b
def Difs (D : Addr) : Led → Prop
  | [] => True
  | p :: r => Dif p.1 D ∧ Difs D r
theorem difs_of {D : Addr} : ∀ {l : Led}, LCg.Off1 D l → Difs D l
  | [], _ => trivial
  | _ :: _, h => ⟨h.1, difs_of h.2⟩
theorem off_difs {D : Addr} : ∀ {l : Led}, Difs D l → LCg.Off1 D l
  | [], _ => trivial
  | _ :: _, h => ⟨h.1, off_difs h.2⟩
theorem dif_ne {a b : Addr} (h : Dif a b) : @Ne Nat a b := h
theorem dif_ne' {a b : Addr} (h : Dif a b) : @Ne Nat b a := fun e => h e.symm
theorem difs_head {a D : Addr} {o : Obj} {r : Led} (h : Difs D ((a, o) :: r)) : @Ne Nat a D := h.1
theorem difs_head' {a D : Addr} {o : Obj} {r : Led} (h : Difs D ((a, o) :: r)) : @Ne Nat D a := fun e => h.1 e.symm
theorem difs_tail {D : Addr} {p : Addr × Obj} {r : Led} (h : Difs D (p :: r)) : Difs D r := h.2
theorem difs_at {a D : Addr} {o : Obj} : ∀ {l : Led}, Difs D l → ∀ (k : Nat), l[k]? = some (a, o) → @Ne Nat a D
  | [], _, _, e => by cases e
  | (_, _) :: _, h, 0, e => by cases e; exact h.1
  | _ :: _, h, k + 1, e => difs_at h.2 k (by simpa using e)
theorem difs_at' {a D : Addr} {o : Obj} {l : Led} (h : Difs D l) (k : Nat) (e : l[k]? = some (a, o)) : @Ne Nat D a := fun x => difs_at h k e x.symm
theorem difs_guard {a D : Addr} {l : Led} (_ : Difs D l) (h : @Ne Nat a D) : @Ne Nat a D := h
theorem difs_guard' {a D : Addr} {l : Led} (_ : Difs D l) (h : @Ne Nat D a) : @Ne Nat D a := h
theorem offBy {D : Addr} {l l' : Led} (h : Difs D l) (f : Difs D l → LCg.Off1 D l') : LCg.Off1 D l' := f h
theorem ok_keep {D : Addr} {p : Addr × Obj} {l l' : Led} (f : Difs D l → LCg.Off1 D l') : Difs D (p :: l) → LCg.Off1 D (p :: l') := fun h => ⟨h.1, f h.2⟩
theorem ok_skip {D : Addr} {p : Addr × Obj} {l l' : Led} (f : Difs D l → LCg.Off1 D l') : Difs D (p :: l) → LCg.Off1 D l' := fun h => f h.2
theorem ok_nil {D : Addr} {l : Led} : Difs D l → LCg.Off1 D [] := fun _ => trivial
theorem ok_id {D : Addr} {l : Led} : Difs D l → LCg.Off1 D l := off_difs
theorem dif_symm {a b : Addr} (h : Dif a b) : Dif b a := fun e => h e.symm
theorem cn_pick {a b D : Nat} {R : Prop} (h : a < D ∧ R) (f : a < D ∧ R → b < D) : b < D := f h
theorem cn_sk {P R X : Prop} (f : R → X) : P ∧ R → X := fun h => f h.2
theorem cn_id {X : Prop} : X → X := fun h => h
theorem ln_Bc1 : True := by
  k_with "my cn" => (first | with_reducible exact And.left | with_reducible exact cn_id | ((with_reducible refine cn_sk ?_); k_extra "my cn"))
  k_with "my conj" => ((k_whole; (with_reducible refine cn_pick (by with_reducible assumption) ?_); k_extra "my cn"))
  k_with "my nn" => (first | with_reducible exact sd1 | with_reducible exact sd2 | with_reducible exact sd3 | with_reducible exact sd4 | with_reducible exact sd5 | with_reducible exact sd6 | with_reducible exact sd7 | with_reducible exact se1 | with_reducible exact se2 | with_reducible exact se3 | with_reducible exact se4 | with_reducible exact se5 | with_reducible exact se6 | with_reducible exact se7 | ((with_reducible refine su ?_); k_extra "my nn"))
  k_with "my lt0" => (first | with_reducible assumption | k_extra "my conj")
  k_with "my hyp" => (first | with_reducible assumption | with_reducible exact And.left (by with_reducible assumption) | with_reducible exact And.right (by with_reducible assumption))
  k_with "my omega" => ((k_whole; first | with_reducible assumption | decide | ((with_reducible show @Ne Nat _ _); first | (k_extra "my nn") | with_reducible exact nu1 (by k_extra "my lt0") | with_reducible exact nu2 (by k_extra "my lt0") | with_reducible exact nu3 (by k_extra "my lt0") | with_reducible exact nu4 (by k_extra "my lt0") | with_reducible exact nu5 (by k_extra "my lt0") | with_reducible exact nu6 (by k_extra "my lt0") | with_reducible exact nu7 (by k_extra "my lt0") | with_reducible exact nv1 (by k_extra "my lt0") | with_reducible exact nv2 (by k_extra "my lt0") | with_reducible exact nv3 (by k_extra "my lt0") | with_reducible exact nv4 (by k_extra "my lt0") | with_reducible exact nv5 (by k_extra "my lt0") | with_reducible exact nv6 (by k_extra "my lt0") | with_reducible exact nv7 (by k_extra "my lt0") | with_reducible exact ne_l (by k_extra "my lt0") | with_reducible exact ne_r (by k_extra "my lt0")) | ((with_reducible show @LE.le Nat _ _ _); first | with_reducible exact qm1 (by k_extra "my hyp") (by k_extra "my hyp") (by first | with_reducible exact mx2 (by with_reducible assumption) (by k_extra "my hyp") (by k_extra "my hyp") | with_reducible exact mx3 (by with_reducible assumption) (by k_extra "my hyp") (by k_extra "my hyp") (by k_extra "my hyp")) (by decide) | with_reducible exact qm2 (by k_extra "my hyp") (by first | with_reducible exact mx2 (by with_reducible assumption) (by k_extra "my hyp") (by k_extra "my hyp") | with_reducible exact mx3 (by with_reducible assumption) (by k_extra "my hyp") (by k_extra "my hyp") (by k_extra "my hyp")) (by decide) | with_reducible exact qn1 (by k_extra "my hyp") (by decide) | with_reducible exact qn2 (by k_extra "my hyp") (by decide) | with_reducible exact qn8 (by k_extra "my hyp") (by k_extra "my hyp") (by decide) | with_reducible exact qn7 (by k_extra "my hyp") (by k_extra "my hyp") (by decide) | with_reducible exact qn10 (by k_extra "my hyp") (by k_extra "my hyp") (by decide) | with_reducible exact qn14 (by k_extra "my hyp") (by k_extra "my hyp") (by decide) | with_reducible exact qn13 (by k_extra "my hyp") (by decide) | with_reducible exact qn5 (by k_extra "my hyp") (by decide) | with_reducible exact qn6 (by k_extra "my hyp") (by k_extra "my hyp") (by decide) | with_reducible exact qn6b (by k_extra "my hyp") (by k_extra "my hyp") (by decide) | with_reducible exact qn6c (by k_extra "my hyp") (by k_extra "my hyp") (by decide) | with_reducible exact qn11 (by k_extra "my hyp") (by decide)) | ((with_reducible show @LT.lt Nat _ _ _); first | with_reducible exact qn3 (by k_extra "my hyp") (by decide) | with_reducible exact qn4 (by k_extra "my hyp") (by decide) | with_reducible exact qn9 (by k_extra "my hyp") (by k_extra "my hyp") (by decide) | with_reducible exact qn12 (by k_extra "my hyp") (by k_extra "my hyp") (by decide)) | ((with_reducible show @LE.le Int _ _ _); first | with_reducible exact qi1 (by k_extra "my hyp") (by decide) | with_reducible exact qi2 (by k_extra "my hyp") (by decide) | with_reducible exact qi5 (by k_extra "my hyp") (by decide) | with_reducible exact qi6 (by k_extra "my hyp") (by decide) | with_reducible exact qc5 (by decide) | with_reducible exact qc2 (by k_extra "my hyp") (by decide) | with_reducible exact qc7 (by decide) | with_reducible exact qc4 (by k_extra "my hyp") (by decide) | with_reducible exact qc11 (by decide) | with_reducible exact qc13 (by k_extra "my hyp") (by decide) | with_reducible exact qq1 (by k_extra "my hyp") (by decide) | with_reducible exact qq2 (by k_extra "my hyp") (by decide) | with_reducible exact qi10 (by k_extra "my hyp") (by decide)) | ((with_reducible show @LT.lt Int _ _ _); first | with_reducible exact mxi2 (by with_reducible assumption) (by k_extra "my hyp") (by k_extra "my hyp") (by decide) | with_reducible exact mxi3 (by with_reducible assumption) (by k_extra "my hyp") (by k_extra "my hyp") (by k_extra "my hyp") (by decide) | with_reducible exact qc14 (by with_reducible assumption) (by decide) | with_reducible exact qi3 (by k_extra "my hyp") (by decide) | with_reducible exact qi4 (by k_extra "my hyp") (by decide) | with_reducible exact qi7 (by k_extra "my hyp") (by decide) | with_reducible exact qi8 (by k_extra "my hyp") (by decide) | with_reducible exact qc6 (by decide) | with_reducible exact qc1 (by k_extra "my hyp") (by decide) | with_reducible exact qc8 (by decide) | with_reducible exact qc3 (by k_extra "my hyp") (by decide) | with_reducible exact qc12 (by decide) | with_reducible exact qc9 (by k_extra "my hyp") (by decide) | with_reducible exact qi9 (by k_extra "my hyp") (by decide)) | ((with_reducible show @Eq Nat _ _); first | with_reducible exact qe1 | with_reducible exact qe2) | ((with_reducible show Not _); first | with_reducible exact qc10 (by k_extra "my hyp") (by decide))))
  trivial
local macro_rules | `(tactic| omega) => `(tactic| k_extra "my omega")
theorem ln_Bc2 : True := by
  k_with "my ne" => (((refine neN ?_); (try dsimp only); first | with_reducible assumption | exact dif_ne (by with_reducible assumption) | exact dif_ne' (by with_reducible assumption) | k_extra "my difne" | with_reducible exact ne_l (by k_extra "my conj") | with_reducible exact ne_r (by k_extra "my conj") | omega))
  trivial
theorem difs_pick {a D : Addr} {l : Led} (h : Difs D l) (f : Difs D l → @Ne Nat a D) : @Ne Nat a D := f h
theorem difs_pick' {a D : Addr} {l : Led} (h : Difs D l) (f : Difs D l → @Ne Nat D a) : @Ne Nat D a := f h
theorem ln_Bc3 : True := by
  k_with "my difne" => (first | (refine difs_pick (by with_reducible assumption) ?_; intro h9zz; first | exact difs_at h9zz 0 rfl | exact difs_at h9zz 1 rfl | exact difs_at h9zz 2 rfl | exact difs_at h9zz 3 rfl | exact difs_at h9zz 4 rfl | exact difs_at h9zz 5 rfl | exact difs_at h9zz 6 rfl | exact difs_at h9zz 7 rfl | exact difs_at h9zz 8 rfl | exact difs_at h9zz 9 rfl | exact difs_at h9zz 10 rfl | exact difs_at h9zz 11 rfl | exact difs_at h9zz 12 rfl | exact difs_at h9zz 13 rfl | exact difs_at h9zz 14 rfl | exact difs_at h9zz 15 rfl | exact difs_at h9zz 16 rfl | exact difs_at h9zz 17 rfl | exact difs_at h9zz 18 rfl | exact difs_at h9zz 19 rfl | exact difs_at h9zz 20 rfl | exact difs_at h9zz 21 rfl | exact difs_at h9zz 22 rfl | exact difs_at h9zz 23 rfl | exact difs_at h9zz 24 rfl | exact difs_at h9zz 25 rfl | exact difs_at h9zz 26 rfl | exact difs_at h9zz 27 rfl | exact difs_at h9zz 28 rfl | exact difs_at h9zz 29 rfl | exact difs_at h9zz 30 rfl | exact difs_at h9zz 31 rfl | exact difs_at h9zz 32 rfl | exact difs_at h9zz 33 rfl | exact difs_at h9zz 34 rfl | exact difs_at h9zz 35 rfl | exact difs_at h9zz 36 rfl | exact difs_at h9zz 37 rfl | exact difs_at h9zz 38 rfl | exact difs_at h9zz 39 rfl) | (refine difs_pick' (by with_reducible assumption) ?_; intro h9zz; first | exact difs_at' h9zz 0 rfl | exact difs_at' h9zz 1 rfl | exact difs_at' h9zz 2 rfl | exact difs_at' h9zz 3 rfl | exact difs_at' h9zz 4 rfl | exact difs_at' h9zz 5 rfl | exact difs_at' h9zz 6 rfl | exact difs_at' h9zz 7 rfl | exact difs_at' h9zz 8 rfl | exact difs_at' h9zz 9 rfl | exact difs_at' h9zz 10 rfl | exact difs_at' h9zz 11 rfl | exact difs_at' h9zz 12 rfl | exact difs_at' h9zz 13 rfl | exact difs_at' h9zz 14 rfl | exact difs_at' h9zz 15 rfl | exact difs_at' h9zz 16 rfl | exact difs_at' h9zz 17 rfl | exact difs_at' h9zz 18 rfl | exact difs_at' h9zz 19 rfl | exact difs_at' h9zz 20 rfl | exact difs_at' h9zz 21 rfl | exact difs_at' h9zz 22 rfl | exact difs_at' h9zz 23 rfl | exact difs_at' h9zz 24 rfl | exact difs_at' h9zz 25 rfl | exact difs_at' h9zz 26 rfl | exact difs_at' h9zz 27 rfl | exact difs_at' h9zz 28 rfl | exact difs_at' h9zz 29 rfl | exact difs_at' h9zz 30 rfl | exact difs_at' h9zz 31 rfl | exact difs_at' h9zz 32 rfl | exact difs_at' h9zz 33 rfl | exact difs_at' h9zz 34 rfl | exact difs_at' h9zz 35 rfl | exact difs_at' h9zz 36 rfl | exact difs_at' h9zz 37 rfl | exact difs_at' h9zz 38 rfl | exact difs_at' h9zz 39 rfl))
  trivial
theorem all_up {D : Addr} : ∀ {l : Led}, AllLt D l → AllLt (Nat.succ D) l
  | [], _ => trivial
  | _ :: _, h => ⟨Nat.lt_succ_of_lt h.1, all_up h.2⟩
theorem off_app {D : Addr} : ∀ {l l' : Led}, LCg.Off1 D l → LCg.Off1 D l' → LCg.Off1 D (l ++ l')
  | [], _, _, h => h
  | _ :: _, _, h, h' => ⟨h.1, off_app h.2 h'⟩
theorem off_left {D : Addr} : ∀ {l l' : Led}, LCg.Off1 D (l ++ l') → LCg.Off1 D l
  | [], _, _ => trivial
  | _ :: _, _, h => ⟨h.1, off_left h.2⟩
theorem off_right {D : Addr} : ∀ {l l' : Led}, LCg.Off1 D (l ++ l') → LCg.Off1 D l'
  | [], _, h => h
  | _ :: _, _, h => off_right h.2
theorem ok_left {D : Addr} {l l' : Led} : Difs D (l ++ l') → LCg.Off1 D l := fun h => off_left (off_difs h)
theorem ok_right {D : Addr} {l l' : Led} : Difs D (l ++ l') → LCg.Off1 D l' := fun h => off_right (off_difs h)
theorem offByC {a D : Nat} {R : Prop} {l' : Led} (h : a < D ∧ R) (f : a < D ∧ R → LCg.Off1 D l') : LCg.Off1 D l' := f h
theorem ct_keep {a D : Nat} {o : Obj} {R : Prop} {l' : Led} (f : R → LCg.Off1 D l') : a < D ∧ R → LCg.Off1 D ((a, o) :: l') := fun h => ⟨Nat.ne_of_lt h.1, f h.2⟩
theorem ct_skip {P R : Prop} {D : Nat} {l' : Led} (f : R → LCg.Off1 D l') : P ∧ R → LCg.Off1 D l' := fun h => f h.2
theorem ct_all {D : Addr} {l : Led} : AllLt D l → LCg.Off1 D l := off_lt
theorem ct_left {D : Addr} {l l' : Led} : AllLt D (l ++ l') → LCg.Off1 D l := fun h => off_left (off_lt h)
theorem ct_right {D : Addr} {l l' : Led} : AllLt D (l ++ l') → LCg.Off1 D l' := fun h => off_right (off_lt h)
theorem ct_one {a D : Nat} {o : Obj} : a < D → LCg.Off1 D [(a, o)] := fun h => ⟨Nat.ne_of_lt h, trivial⟩
theorem ct_nil {P : Prop} {D : Nat} : P → LCg.Off1 D [] := fun _ => trivial
theorem ln_Bc4 : True := by
  k_with "my ctl" => (first | with_reducible exact ct_all | with_reducible exact ct_left | with_reducible exact ct_right | with_reducible exact ct_nil | with_reducible exact ct_one | ((with_reducible refine ct_keep ?_); k_extra "my ctl") | ((with_reducible refine ct_skip ?_); k_extra "my ctl"))
  trivial
theorem off3By {I C D : Addr} {l l' : Led} (h : LCg.Off3 I C D l) (f : LCg.Off3 I C D l → LCg.Off3 I C D l') : LCg.Off3 I C D l' := f h
theorem o3_keep {I C D a : Addr} {o o' : Obj} {l l' : Led} (f : LCg.Off3 I C D l → LCg.Off3 I C D l') : LCg.Off3 I C D ((a, o) :: l) → LCg.Off3 I C D ((a, o') :: l') := fun h => ⟨h.1, f h.2⟩
theorem o3_skip {I C D : Addr} {p : Addr × Obj} {l l' : Led} (f : LCg.Off3 I C D l → LCg.Off3 I C D l') : LCg.Off3 I C D (p :: l) → LCg.Off3 I C D l' := fun h => f h.2
theorem o3_nil {I C D : Addr} {l : Led} : LCg.Off3 I C D l → LCg.Off3 I C D [] := fun _ => trivial
theorem o3_id {I C D : Addr} {l : Led} : LCg.Off3 I C D l → LCg.Off3 I C D l := fun h => h
theorem ln_Bc5 : True := by
  k_with "my o3l" => (first | with_reducible exact o3_id | with_reducible exact o3_nil | ((with_reducible refine o3_keep ?_); k_extra "my o3l") | ((with_reducible refine o3_skip ?_); k_extra "my o3l"))
  k_with "my o3" => (first | with_reducible assumption | ((try simp only [List.cons_append, List.nil_append]); refine off3By (by with_reducible assumption) ?_; k_extra "my o3l") | (refine And.intro ⟨by k_ne, by k_ne, by k_ne⟩ ?_; k_extra "my o3"))
  k_with "my okl" => (first | with_reducible exact ok_id | with_reducible exact ok_left | with_reducible exact ok_right | with_reducible exact ok_nil | ((with_reducible refine ok_keep ?_); k_extra "my okl") | ((with_reducible refine ok_skip ?_); k_extra "my okl"))
  k_with "my offtail" => (first | with_reducible exact off_difs (by with_reducible assumption) | exact off_lt (by with_reducible assumption) | exact off_of (by with_reducible assumption) | exact off_all (by with_reducible assumption) | exact off_left (by with_reducible assumption) | exact off_right (by with_reducible assumption) | exact off_lt (all_up (by with_reducible assumption)) | exact off_lt (all_up (all_up (by with_reducible assumption))) | exact off_lt (all_up (all_up (all_up (by with_reducible assumption)))) | exact off_lt (all_up (all_up (all_up (all_up (by with_reducible assumption))))) | exact off_lt (all_up (all_up (all_up (all_up (all_up (by with_reducible assumption)))))) | exact off_lt (all_up (all_up (all_up (all_up (all_up (all_up (by with_reducible assumption))))))) | exact off_lt (And.right (by with_reducible assumption)) | exact And.right (by with_reducible assumption) | exact off_lt (And.right (And.right (by with_reducible assumption))) | exact And.right (And.right (by with_reducible assumption)) | exact off_lt (And.right (And.right (And.right (by with_reducible assumption)))) | exact And.right (And.right (And.right (by with_reducible assumption))) | exact off_lt (And.right (And.right (And.right (And.right (by with_reducible assumption))))) | exact And.right (And.right (And.right (And.right (by with_reducible assumption)))) | exact off_lt (And.right (And.right (And.right (And.right (And.right (by with_reducible assumption)))))) | exact And.right (And.right (And.right (And.right (And.right (by with_reducible assumption))))) | exact off_lt (And.right (And.right (And.right (And.right (And.right (And.right (by with_reducible assumption))))))) | exact And.right (And.right (And.right (And.right (And.right (And.right (by with_reducible assumption)))))) | exact off_lt (And.right (And.right (And.right (And.right (And.right (And.right (And.right (by with_reducible assumption)))))))) | exact And.right (And.right (And.right (And.right (And.right (And.right (And.right (by with_reducible assumption))))))) | exact off_lt (And.right (And.right (And.right (And.right (And.right (And.right (And.right (And.right (by with_reducible assumption))))))))) | exact And.right (And.right (And.right (And.right (And.right (And.right (And.right (And.right (by with_reducible assumption)))))))) | exact off_lt (And.right (And.right (And.right (And.right (And.right (And.right (And.right (And.right (And.right (by with_reducible assumption)))))))))) | exact And.right (And.right (And.right (And.right (And.right (And.right (And.right (And.right (And.right (by with_reducible assumption))))))))) | exact off_lt (And.right (And.right (And.right (And.right (And.right (And.right (And.right (And.right (And.right (And.right (by with_reducible assumption))))))))))) | exact And.right (And.right (And.right (And.right (And.right (And.right (And.right (And.right (And.right (And.right (by with_reducible assumption)))))))))) | exact off_lt (And.right (And.right (And.right (And.right (And.right (And.right (And.right (And.right (And.right (And.right (And.right (by with_reducible assumption)))))))))))) | exact And.right (And.right (And.right (And.right (And.right (And.right (And.right (And.right (And.right (And.right (And.right (by with_reducible assumption))))))))))) | exact off_lt (And.right (And.right (And.right (And.right (And.right (And.right (And.right (And.right (And.right (And.right (And.right (And.right (by with_reducible assumption))))))))))))) | exact And.right (And.right (And.right (And.right (And.right (And.right (And.right (And.right (And.right (And.right (And.right (And.right (by with_reducible assumption)))))))))))) | exact off_lt (And.right (And.right (And.right (And.right (And.right (And.right (And.right (And.right (And.right (And.right (And.right (And.right (And.right (by with_reducible assumption)))))))))))))) | exact And.right (And.right (And.right (And.right (And.right (And.right (And.right (And.right (And.right (And.right (And.right (And.right (And.right (by with_reducible assumption))))))))))))) | exact off_lt (And.right (And.right (And.right (And.right (And.right (And.right (And.right (And.right (And.right (And.right (And.right (And.right (And.right (And.right (by with_reducible assumption))))))))))))))) | exact And.right (And.right (And.right (And.right (And.right (And.right (And.right (And.right (And.right (And.right (And.right (And.right (And.right (And.right (by with_reducible assumption)))))))))))))))
  k_with "my off1" => (first | exact True.intro | with_reducible assumption | exact off_difs (by with_reducible assumption) | (refine offBy (by with_reducible assumption) ?_; k_extra "my okl") | (refine offByC (by with_reducible assumption) ?_; k_extra "my ctl") | (refine And.intro ?_ ?_; (k_extra "my ne"); k_extra "my off1") | k_extra "my offtail")
  k_with "my above" => (first | exact above0 | (simp only [List.nil_append, List.cons_append]; k_extra "my above") | (refine aboveC ?_ ?_; (k_extra "my off1"); (k_extra "my above")))
  k_with "my need" => (first | exact List.forall_mem_nil _ | (refine' List.forall_mem_cons.mpr ⟨(by k_mem), (by k_extra "my need")⟩))
  trivial
theorem below1 {D : Addr} {o : Obj} {l : Led} (h : ∀ q ∈ [(D, o)], LCg.Off1 q.1 l) : LCg.Off1 D l := h (D, o) (.head _)
theorem ln_Bc6 : True := by
  k_with "my split" => (skip)
  trivial
theorem below2 {D D2 : Addr} {o o2 : Obj} {r l : Led} (h : ∀ q ∈ (D, o) :: (D2, o2) :: r, LCg.Off1 q.1 l) : LCg.Off1 D l ∧ LCg.Off1 D2 l := ⟨h (D, o) (.head _), h (D2, o2) (.tail _ (.head _))⟩
local macro_rules | `(tactic| walk_at "tell class") => `(tactic| (k_dflt (refine' call_cls ?k1 ?k2 ?k3 ?k4 ?k5 ?k6 ?_; (case k1 => k_asm); (case k2 => k_asm); (case k3 => k_asm); (case k4 => k_is); (case k5 => k_is); (case k6 => k_is); k_whole); intro x' d' h' F' N' l1 l2; (try k_lt l1); (try k_lt2 l2); (try k_sweep); k_dflt (refine' code_def ?k1 ?k2 ?k3 ?k4 ?k5 ?kA ?kF ?kK ?k6 ?k7 ?k8 ?k9 ?kB ?_ ?c2 ?c3 ?c4 ?c5; (case kA => exact rfl); (case kF => exact rfl); (case kK => first | exact rfl | assumption); (case k1 => k_asm); (case k2 => k_asm); (case k3 => k_asm); (case k4 => k_asm); (case k5 => k_asm); (case k6 => k_is); (case k7 => k_is); (case k8 => (simp only [depth_under_make]; exact Nat.le_of_ble_eq_true rfl)); (case k9 => first | exact BindsTo.of_eq rfl | exact binds_K (by k_in) rfl (by k_is) rfl rfl rfl | fail "tell class: no rule for these arguments"); (case c5 => decide); (case kB => exact locs rfl); (case c2 => exact rfl); (case c3 => exact rfl); (case c4 => exact rfl); k_whole); intro g' L' h' FG' F' N' B' X' T'; (try dsimp only); (try k_lift B'); (try k_fold)))
theorem pair_l {P R : Prop} (h : P ∧ R) : P := h.1
local macro_rules | `(tactic| k_all) => `(tactic| first | with_reducible assumption | exact off_mem (by k_extra "my off1"))
local macro_rules | `(tactic| k_upd) => `(tactic| first | (refine' Upd.head ?a; (case a => k_all)) | (refine' Upd.tail ?a ?b; (case a => k_extra "my ne"); (case b => k_upd)))
local macro_rules | `(tactic| k_updF) => `(tactic| first | (refine' UpdF.head ?a; (case a => k_all)) | (refine' UpdF.tail ?a ?b; (case a => k_extra "my ne"); (case b => k_updF)))
theorem ln_Bc7 : True := by
  k_with "my @call builtin:list.pop" => ((k_here; k_dflt (refine' pop0 (by k_asm) (by k_asm) (by k_upd) (by first | assumption | (simp only [List.length_cons] at *; omega)) ?_; k_whole); intro h'zz F'zz N'zz; (try dsimp only [List.nil_append, List.cons_append] at N'zz)))
  k_with "my len" => (((try dsimp only); (try simp only [rjust_len, ljust_len, Str.length_append, len_space, len_nil, len_dot]); omega))
  k_with "my @binaryOp Add str str" => ((k_here; (with_reducible show wpAny _ _ (binaryOp Operator.Add (Value.str _ _) (Value.str _ _)) _ _ _); refine add_ (by k_extra "my len") ?_; intro _ _))
  k_with "my strs" => (first | with_reducible assumption | exact StrsAre.nil | (refine' StrsAre.cons _ _ (by k_extra "my strs")))
  k_with "my @call builtin:str.join" => ((k_here; (with_reducible show wpAny _ _ (call (Value.builtin "str.join") [Value.str _ _, Value.ref _]) _ _ _); k_dflt (refine' k_join (by k_asm) (by k_mem) (by (with_unfolding_all k_extra "my strs")) (by k_extra "my each") (by exact Nat.le_of_ble_eq_true rfl) ?_; k_whole; intro _ _)))
  k_with "my tlen" => (first | decide | exact Nat.le_trans (num_len (by omega) (by omega)) (by decide) | k_extra "my len")
  k_with "my each" => (first | assumption | exact List.forall_mem_nil _ | (refine List.forall_mem_cons.mpr ⟨by k_extra "my tlen", ?_⟩; k_extra "my each"))
  k_with "my @compareOp In str str" => ((k_here; refine in_no (by assumption) ?_))
  k_with "my @call builtin:str.isprintable" => ((k_here; refine KXw.isprintable (b := true) (by assumption) ?_))
  k_with "my @WhlIf" => ((refine WhlIf.no (decide_eq_false (by rw [pow18]; omega)) ?_))
  trivial
local macro_rules | `(tactic| walk_at "eval Name") => `(tactic| (k_here; (with_reducible show wpAny _ _ (eval (Expr.Name _ _) (compEnvC _ _ _ _)) _ _ _); k_dflt (first | (name_kind "local"; refine' LCgL.ld_own ?a ?b ?c ?d ?_ ?e ?f ?g; (case a => k_asm); (case b => k_mem); (case c => assumption); (case d => assumption); (case e => kernel_rfl); (case f => kernel_rfl); (case g => kernel_rfl)) | (name_kind "globalImplicit"; refine' LCgL.ld_global ?a ?b ?c ?d ?_ ?g ?k ?x ?y; (case a => k_asm); (case b => k_asm); (case c => k_asm); (case d => k_is); (case g => kernel_rfl); (case k => kernel_rfl); (case x => kernel_rfl); (case y => kernel_rfl)) | (name_kind "globalImplicit"; name_is_builtin; refine' LCgL.ld_built ?a ?b ?c ?d ?e ?f ?_ ?g ?h ?k ?x ?y; (case a => k_asm); (case b => k_asm); (case c => k_asm); (case d => k_is); (case e => boot_by_name); (case f => decide); (case g => kernel_rfl); (case h => kernel_rfl); (case k => kernel_rfl); (case x => kernel_rfl); (case y => kernel_rfl)) | (refine' kcf_cell ?a ?b ?c ?d ?_ ?e ?f ?g; (case a => k_asm); (case b => rfl); (case c => k_mem); (case d => k_asm); (case e => kernel_rfl); (case f => rfl); (case g => kernel_rfl)))))
local macro_rules | `(tactic| walk_at "eval Name") => `(tactic| (k_here; (fail_if_success (with_reducible show wpAny _ _ (eval (Expr.Name _ _) (compEnvC _ _ _ _)) _ _ _)); k_dflt (first | (name_kind "local"; refine' nameX_L ?F ?v ?_ ?a ?b ?c; (case F => k_asm); (case v => rfl); (case a => rfl); (case b => kernel_rfl); (case c => kernel_rfl); k_whole) | (name_kind "cell"; refine' nameX_C ?N ?c ?m ?d ?_ ?a ?b ?e; (case N => k_asm); (case c => rfl); (case m => k_mem); (case d => k_asm); (case a => rfl); (case b => kernel_rfl); (case e => kernel_rfl); k_whole) | (name_kind "globalImplicit"; refine' nameX_K ?F ?X ?T ?e ?_ ?a ?b ?c; (case F => k_asm); (case X => k_asm); (case T => k_asm); (case e => k_is); (case a => rfl); (case b => kernel_rfl); (case c => kernel_rfl); k_whole) | (name_kind "globalImplicit"; name_is_builtin; refine' nameX_B ?F ?X ?T ?e ?v ?n ?_ ?a ?b ?c; (case F => k_asm); (case X => k_asm); (case T => k_asm); (case e => k_is); (case v => boot_fast); (case n => decide); (case a => rfl); (case b => kernel_rfl); (case c => kernel_rfl); k_whole))))
theorem ln_Bc8 : True := by
  k_with "my @subscriptTail Attribute" => ((k_here; k_dflt (refine kba_turn (value' := PySem.Expr.Name (PySem.Str.ofString "_") ⟨0, 0, 0, 0⟩) (fun _ => rfl) ?_)))
  k_with "my @subscriptTail Subscript" => ((k_here; k_dflt (refine kba_turn (value' := PySem.Expr.Name (PySem.Str.ofString "_") ⟨0, 0, 0, 0⟩) (fun _ => rfl) ?_)))
  k_with "my @execs cons Assign cons" => (first | (k_here; k_gentoks) | ((with_reducible refine wpAny_execs_cons ?_); try dsimp only))
  k_with "my @execs cons" => (first | (k_here; k_gentoks) | ((with_reducible refine wpAny_execs_cons ?_); try dsimp only))
  k_with "my @exec Assign" => ((k_here; (with_reducible show wpAny _ _ (exec (PySem.Stmt.Assign [PySem.Expr.Name _ _] _ _) _) _ _ _); k_dflt (refine wpAny_Assign_Name ?_)))
  trivial
local macro_rules | `(tactic| walk_at "getAttr ref") => `(tactic| (k_here; k_dflt (refine' get_own ?k1 ?k2 ?k3 ?k4 ?k5 ?k6 ?k7 ?k8 ?k9 ?_; (case k1 => k_asm); (case k2 => k_asm); (case k3 => k_inst); (case k4 => k_is); (case k5 => k_is); (case k6 => k_is); (case k7 => k_is); (case k8 => k_get); (case k9 => k_handed); k_whole)))
local macro_rules | `(tactic| walk_at "callWith") => `(tactic| (k_here; first | ((with_reducible show wpAny _ _ (callWith _ (Value.builtin _) [] (backTo _ (starEach (_ :: _) _)) []) _ _ _); k_dflt (refine' PyProof.Rows.callWith_builtin1 ?_ ?a ?b; (case a => kernel_rfl); (case b => kernel_rfl))) | ((with_reducible show wpAny _ _ (callWith _ (Value.builtin _) (_ :: _) (backTo _ (starEach (_ :: _) _)) []) _ _ _); k_dflt (refine' callWith_method1 ?_ ?a ?b; (case a => kernel_rfl); (case b => kernel_rfl)))))
local macro_rules | `(tactic| walk_at "ite") => `(tactic| (k_closed; k_dflt (first | (refine' ite_pos ?a ?_; (case a => decide +kernel)) | (refine' ite_neg ?a ?_; (case a => decide +kernel)))))
local macro_rules | `(tactic| walk_at "eval Call Name") => `(tactic| (k_here; first | k_extra "my fold2" | k_extra "my @eval Call" | kcu_call | kcj_call | k_compRoot | k_dflt (refine' Call_ ?_ ?a; (case a => kernel_rfl))))
local macro_rules | `(tactic| walk_at "spliced") => `(tactic| (k_here; k_dflt (first | (refine' args_cons ?_ ?a; (case a => kernel_rfl)) | refine args_nil ⟨Fr.keep (by assumption) _ _ (by assumption), ?_⟩ | (refine args_nil ?_; try simp only [List.cons_append, List.nil_append]))))
-- part Jn
/-- a marker: the lines that hold a walk at a join stand back while it is in the context -/
def Free : Prop := True
/-- two ways that end alike: each is walked for any Q', the rest once -/
theorem join_val {prog : Program} {w : World} {A : Around} {tr : Sem Value} {Q E : Value → Shared → Prop} {s : Shared} {h₀ : Heap} {L : Addr} {m : Str → Option Value} (_ : Fr h₀ L s.heap m) (R : (Led → Prop) → Value → Prop)
    (h1 : ∀ Q' : Value → Shared → Prop, (∀ h' tk' v, Fr h₀ L h' m → R (fun l => News h₀ L h' l) v → Q' v { s with heap := h', toks := tk' }) → wpAny (model prog w) A tr Q' E s)
    (h2 : ∀ h' tk' v, Fr h₀ L h' m → R (fun l => News h₀ L h' l) v → Q v { s with heap := h', toks := tk' }) : wpAny (model prog w) A tr Q E s := h1 Q h2
theorem join_flow {prog : Program} {w : World} {A : Around} {tr : Sem Flow} {Q : Flow → Shared → Prop} {E : Value → Shared → Prop} {s : Shared} {h₀ : Heap} {L : Addr} {m : Str → Option Value} (_ : Fr h₀ L s.heap m) (R : (Led → Prop) → ((Str → Option Value) → Prop) → (Str → Option Value) → Prop)
    (h1 : ∀ Q' : Flow → Shared → Prop, (∀ h' tk', R (fun l => News h₀ L h' l) (fun m => Fr h₀ L h' m) m → Q' .next { s with heap := h', toks := tk' }) → wpAny (model prog w) A tr Q' E s)
    (h2 : ∀ h' tk', R (fun l => News h₀ L h' l) (fun m => Fr h₀ L h' m) m → Q .next { s with heap := h', toks := tk' }) : wpAny (model prog w) A tr Q E s := h1 Q h2
/-- a value that two ways give alike -/
theorem join_str {prog : Program} {w : World} {A : Around} {tr : Sem Value} {Q E : Value → Shared → Prop} {s : Shared} {h₀ : Heap} {L : Addr} {m : Str → Option Value} {led : Led} (x : Str) (_ : Fr h₀ L s.heap m) (_ : News h₀ L s.heap led)
    (h1 : ∀ Q' : Value → Shared → Prop, (∀ h' tk' t, Fr h₀ L h' m → News h₀ L h' led → Q' (.str x t) { s with heap := h', toks := tk' }) → wpAny (model prog w) A tr Q' E s)
    (h2 : ∀ h' tk' t, Fr h₀ L h' m → News h₀ L h' led → Q (.str x t) { s with heap := h', toks := tk' }) : wpAny (model prog w) A tr Q E s := h1 Q h2
theorem reg_W7 : True := by
  k_with "my fold" => k_fold
  trivial
theorem off_W7 : True := by
  w_top off
  trivial
-- part W7
theorem ln_W71 : True := by
  k_with "my for" => ((k_here; (rename Fr _ _ _ _ => lF'zz); (with_unfolding_all refine' For_invVF lF'zz (by exact rfl) (by exact rfl) ?_; k_whole)))
  k_with "my @exec For Name Call cons nil" => ((k_extra "my for"))
  k_with "my @exec For Name Subscript cons nil" => ((k_extra "my for"))
  k_with "my @InvEndN" => ((k_dflt kst_close))
  k_with "my @pyIter ref" => ((k_of "hop" => refine to_held ?_))
  k_with "my @pyIter ref" => ((k_of "one" => k_state (fun pre tree => tree.length ≤ 8 * pre.length) "tree"))
  trivial
def TellK (K : Heap → Prop) (dp un : Nat) (w : World) (f : Addr) (vs : List Value) (kw : List (Str × Value)) (need : Led) (mt : List Addr) (P : (Value → Led → Led → Prop) → Prop) : Prop :=
  ∀ (p : Program) (loose : List Str) (mean : ExcName → Option Value) (mg mb : Str → Option Value) (gd : Option (List Code)) (cn : Str) (cs : Scope) (a : Addr) (ccd : Value) (cl : List (Str × Addr)) (outer : List Env) (A₀ : Around) (base h₀ : Heap) (L : Addr) (m : Str → Option Value) (news : Led) (s : Shared)
    (Q E : Value → Shared → Prop),
    K h₀ → Below A₀ base outer h₀ → Fr h₀ L s.heap m → (hd.heap_39 w.params).In h₀ → News h₀ L s.heap (need ++ news) → Top p loose mean mg mb h₀ → cs.kind = .function →
    (∀ a ∈ mt, ∀ p ∈ news, p.1 ≠ a) →
    P (fun r keep new => ∀ h' tk', Fr h₀ L h' m → News h₀ L h' (new ++ (keep ++ news)) → (∀ q ∈ new, LCg.Off1 q.1 (keep ++ news)) → Q r { s with heap := h', toks := tk' }) →
    wpAny (model PySem.Challenge.rw_qd0173_01.row.prog w) (ktrTop dp un gd cn cs L a ccd cl outer) (call (.ref f) vs kw) Q E s
theorem TellK.useP {K : Heap → Prop} {dp un : Nat} {w : World} {f : Addr} {vs : List Value} {kw : List (Str × Value)} {need : Led} {P : (Value → Led → Led → Prop) → Prop} (C : TellK K dp un w f vs kw need [] P)
    {p : Program} {loose : List Str} {mean : ExcName → Option Value} {mg mb : Str → Option Value} {d u : Nat} {gd : Option (List Code)} {cn : Str} {cs : Scope} {a : Addr} {ccd : Value} {cl : List (Str × Addr)} {outer : List Env} {A₀ : Around} {base h₀ : Heap} {L : Addr} {m : Str → Option Value} {news : Led} {s : Shared}
    {Q E : Value → Shared → Prop} (k : K h₀)
    (B : Below A₀ base outer h₀) (F : Fr h₀ L s.heap m) (X : (hd.heap_39 w.params).In h₀) (N : News h₀ L s.heap news) (T : Top p loose mean mg mb h₀) (hk : cs.kind = .function) (hn : ∀ p ∈ need, p ∈ news)
    (hd : d ≤ dp) (hu : u ≤ un)
    (h : P (fun r keep new => ∀ h' tk', Fr h₀ L h' m → News h₀ L h' (new ++ (keep ++ news)) → (∀ q ∈ new, LCg.Off1 q.1 (keep ++ news)) → Q r { s with heap := h', toks := tk' })) :
    wpAny (model PySem.Challenge.rw_qd0173_01.row.prog w) (ktrTop d u gd cn cs L a ccd cl outer) (call (.ref f) vs kw) Q E s :=
  wp_less (C p loose mean mg mb gd cn cs a ccd cl outer A₀ base h₀ L m news s Q E k B F X (with_need N hn) T hk (fun _ h => nomatch h) h) hd hu
theorem TellK.useQ {K : Heap → Prop} {dp un : Nat} {w : World} {f : Addr} {vs : List Value} {kw : List (Str × Value)} {need : Led} {P : (Value → Led → Led → Prop) → Prop}
    {p : Program} {loose : List Str} {mean : ExcName → Option Value} {mg mb : Str → Option Value} {d u : Nat} {gd : Option (List Code)} {cn : Str} {cs : Scope} {a : Addr} {ccd : Value} {cl : List (Str × Addr)} {outer : List Env} {A₀ : Around} {base h₀ : Heap} {L : Addr} {m : Str → Option Value} {news : Led} {s : Shared}
    {Q E : Value → Shared → Prop} (k : K h₀)
    (B : Below A₀ base outer h₀) (F : Fr h₀ L s.heap m) (X : (hd.heap_39 w.params).In h₀) (N : News h₀ L s.heap news) (T : Top p loose mean mg mb h₀) (hk : cs.kind = .function) (hn : ∀ p ∈ need, p ∈ news)
    (hd : d ≤ dp) (hu : u ≤ un) (C : TellK K dp un w f vs kw need [] P)
    (h : P (fun r keep new => ∀ h' tk', Fr h₀ L h' m → News h₀ L h' (new ++ (keep ++ news)) → (∀ q ∈ new, LCg.Off1 q.1 (keep ++ news)) → Q r { s with heap := h', toks := tk' })) :
    wpAny (model PySem.Challenge.rw_qd0173_01.row.prog w) (ktrTop d u gd cn cs L a ccd cl outer) (call (.ref f) vs kw) Q E s :=
  C.useP k B F X N T hk hn hd hu h
theorem plums_ (w : World) (a : Addr) (vs : List Value) (ns : List Int) (hi : IntsAre vs ns) (hl : ns.length ≤ 63) :
  TellK (fun h => h.IsList a vs.toArray) 900 2000 w 432 [.ref a] [] [] [] (fun R => ∀ b vs' ns' n', IntsAre vs' ns' → ns'.length ≤ 50 → R (.ref b) [] [(b, lst vs' n')]) := by
  unfold TellK
  intro p loose mean mg mb gd cn cs ca ccd cl outer A₀ base h₀ L m news s Q E hK B F X N T hk hsep hret
  simp only [List.cons_append, List.nil_append] at N
  walk_at "tell enter"
  rename Fr h₀ L _ m => fg
  have hK2 := hK.at fun o e => fg.keep _ o e
  clear hK
  try k_fold
  k_steps
  all_goals (first | (refine of_held ?_; k_state_short (fun pre left tree => tree.length ≤ 8 * kPre.length + pre.length) "left" "tree") | skip)
  all_goals k_steps
  all_goals exact hret _ _ _ _ (by assumption) (by omega) _ _ (by assumption) (drop_to (by assumption) (fun p hp => by rcases List.mem_cons.mp hp with rfl | hp; exact .head _; exact .tail _ (.tail _ (.tail _ hp)))) (by k_extra "my above")
theorem reg_D1 : True := by
  w_top off
  k_with_none
  k_with "tell start" => ((unfold Tell; intro pzz loosezz meanzz mgzz mbzz gdzz cnzz cszz cazz ccdzz clzz outerzz A₀zz basezz h₀zz Lzz mzz newszz szz Qzz Ezz Bzz Fzz Xzz Nzz Tzz hkzz hsepzz hretzz; simp only [List.cons_append, List.nil_append] at Nzz; walk_at "tell enter"))
  k_with "my @call ref" => ((k_here; (with_reducible show wpAny _ _ (call (Value.ref _) _ _) _ _ _); first | walk_at "tell enter" | walk_at "tell enterC"))
  k_with "my cn" => (first | with_reducible exact And.left | with_reducible exact cn_id | ((with_reducible refine cn_sk ?_); k_extra "my cn"))
  k_with "my conj" => ((k_whole; (with_reducible refine cn_pick (by with_reducible assumption) ?_); k_extra "my cn"))
  k_with "my nn" => (first | with_reducible exact sd1 | with_reducible exact sd2 | with_reducible exact sd3 | with_reducible exact sd4 | with_reducible exact sd5 | with_reducible exact sd6 | with_reducible exact sd7 | with_reducible exact se1 | with_reducible exact se2 | with_reducible exact se3 | with_reducible exact se4 | with_reducible exact se5 | with_reducible exact se6 | with_reducible exact se7 | ((with_reducible refine su ?_); k_extra "my nn"))
  k_with "my lt0" => (first | with_reducible assumption | k_extra "my conj")
  k_with "my hyp" => (first | with_reducible assumption | with_reducible exact And.left (by with_reducible assumption) | with_reducible exact And.right (by with_reducible assumption))
  k_with "my omega" => ((k_whole; first | with_reducible assumption | decide | ((with_reducible show @Ne Nat _ _); first | (k_extra "my nn") | with_reducible exact nu1 (by k_extra "my lt0") | with_reducible exact nu2 (by k_extra "my lt0") | with_reducible exact nu3 (by k_extra "my lt0") | with_reducible exact nu4 (by k_extra "my lt0") | with_reducible exact nu5 (by k_extra "my lt0") | with_reducible exact nu6 (by k_extra "my lt0") | with_reducible exact nu7 (by k_extra "my lt0") | with_reducible exact nv1 (by k_extra "my lt0") | with_reducible exact nv2 (by k_extra "my lt0") | with_reducible exact nv3 (by k_extra "my lt0") | with_reducible exact nv4 (by k_extra "my lt0") | with_reducible exact nv5 (by k_extra "my lt0") | with_reducible exact nv6 (by k_extra "my lt0") | with_reducible exact nv7 (by k_extra "my lt0") | with_reducible exact ne_l (by k_extra "my lt0") | with_reducible exact ne_r (by k_extra "my lt0")) | ((with_reducible show @LE.le Nat _ _ _); first | with_reducible exact qm1 (by k_extra "my hyp") (by k_extra "my hyp") (by first | with_reducible exact mx2 (by with_reducible assumption) (by k_extra "my hyp") (by k_extra "my hyp") | with_reducible exact mx3 (by with_reducible assumption) (by k_extra "my hyp") (by k_extra "my hyp") (by k_extra "my hyp")) (by decide) | with_reducible exact qm2 (by k_extra "my hyp") (by first | with_reducible exact mx2 (by with_reducible assumption) (by k_extra "my hyp") (by k_extra "my hyp") | with_reducible exact mx3 (by with_reducible assumption) (by k_extra "my hyp") (by k_extra "my hyp") (by k_extra "my hyp")) (by decide) | with_reducible exact qn1 (by k_extra "my hyp") (by decide) | with_reducible exact qn2 (by k_extra "my hyp") (by decide) | with_reducible exact qn8 (by k_extra "my hyp") (by k_extra "my hyp") (by decide) | with_reducible exact qn7 (by k_extra "my hyp") (by k_extra "my hyp") (by decide) | with_reducible exact qn10 (by k_extra "my hyp") (by k_extra "my hyp") (by decide) | with_reducible exact qn14 (by k_extra "my hyp") (by k_extra "my hyp") (by decide) | with_reducible exact qn13 (by k_extra "my hyp") (by decide) | with_reducible exact qn5 (by k_extra "my hyp") (by decide) | with_reducible exact qn6 (by k_extra "my hyp") (by k_extra "my hyp") (by decide) | with_reducible exact qn6b (by k_extra "my hyp") (by k_extra "my hyp") (by decide) | with_reducible exact qn6c (by k_extra "my hyp") (by k_extra "my hyp") (by decide) | with_reducible exact qn11 (by k_extra "my hyp") (by decide)) | ((with_reducible show @LT.lt Nat _ _ _); first | with_reducible exact qn3 (by k_extra "my hyp") (by decide) | with_reducible exact qn4 (by k_extra "my hyp") (by decide) | with_reducible exact qn9 (by k_extra "my hyp") (by k_extra "my hyp") (by decide) | with_reducible exact qn12 (by k_extra "my hyp") (by k_extra "my hyp") (by decide)) | ((with_reducible show @LE.le Int _ _ _); first | with_reducible exact qi1 (by k_extra "my hyp") (by decide) | with_reducible exact qi2 (by k_extra "my hyp") (by decide) | with_reducible exact qi5 (by k_extra "my hyp") (by decide) | with_reducible exact qi6 (by k_extra "my hyp") (by decide) | with_reducible exact qc5 (by decide) | with_reducible exact qc2 (by k_extra "my hyp") (by decide) | with_reducible exact qc7 (by decide) | with_reducible exact qc4 (by k_extra "my hyp") (by decide) | with_reducible exact qc11 (by decide) | with_reducible exact qc13 (by k_extra "my hyp") (by decide) | with_reducible exact qq1 (by k_extra "my hyp") (by decide) | with_reducible exact qq2 (by k_extra "my hyp") (by decide) | with_reducible exact qi10 (by k_extra "my hyp") (by decide)) | ((with_reducible show @LT.lt Int _ _ _); first | with_reducible exact mxi2 (by with_reducible assumption) (by k_extra "my hyp") (by k_extra "my hyp") (by decide) | with_reducible exact mxi3 (by with_reducible assumption) (by k_extra "my hyp") (by k_extra "my hyp") (by k_extra "my hyp") (by decide) | with_reducible exact qc14 (by with_reducible assumption) (by decide) | with_reducible exact qi3 (by k_extra "my hyp") (by decide) | with_reducible exact qi4 (by k_extra "my hyp") (by decide) | with_reducible exact qi7 (by k_extra "my hyp") (by decide) | with_reducible exact qi8 (by k_extra "my hyp") (by decide) | with_reducible exact qc6 (by decide) | with_reducible exact qc1 (by k_extra "my hyp") (by decide) | with_reducible exact qc8 (by decide) | with_reducible exact qc3 (by k_extra "my hyp") (by decide) | with_reducible exact qc12 (by decide) | with_reducible exact qc9 (by k_extra "my hyp") (by decide) | with_reducible exact qi9 (by k_extra "my hyp") (by decide)) | ((with_reducible show @Eq Nat _ _); first | with_reducible exact qe1 | with_reducible exact qe2) | ((with_reducible show Not _); first | with_reducible exact qc10 (by k_extra "my hyp") (by decide))))
  k_with "my ne" => (((refine neN ?_); (try dsimp only); first | with_reducible assumption | exact dif_ne (by with_reducible assumption) | exact dif_ne' (by with_reducible assumption) | k_extra "my difne" | with_reducible exact ne_l (by k_extra "my conj") | with_reducible exact ne_r (by k_extra "my conj") | omega))
  k_with "my difne" => (first | (refine difs_pick (by with_reducible assumption) ?_; intro h9zz; first | exact difs_at h9zz 0 rfl | exact difs_at h9zz 1 rfl | exact difs_at h9zz 2 rfl | exact difs_at h9zz 3 rfl | exact difs_at h9zz 4 rfl | exact difs_at h9zz 5 rfl | exact difs_at h9zz 6 rfl | exact difs_at h9zz 7 rfl | exact difs_at h9zz 8 rfl | exact difs_at h9zz 9 rfl | exact difs_at h9zz 10 rfl | exact difs_at h9zz 11 rfl | exact difs_at h9zz 12 rfl | exact difs_at h9zz 13 rfl | exact difs_at h9zz 14 rfl | exact difs_at h9zz 15 rfl | exact difs_at h9zz 16 rfl | exact difs_at h9zz 17 rfl | exact difs_at h9zz 18 rfl | exact difs_at h9zz 19 rfl | exact difs_at h9zz 20 rfl | exact difs_at h9zz 21 rfl | exact difs_at h9zz 22 rfl | exact difs_at h9zz 23 rfl | exact difs_at h9zz 24 rfl | exact difs_at h9zz 25 rfl | exact difs_at h9zz 26 rfl | exact difs_at h9zz 27 rfl | exact difs_at h9zz 28 rfl | exact difs_at h9zz 29 rfl | exact difs_at h9zz 30 rfl | exact difs_at h9zz 31 rfl | exact difs_at h9zz 32 rfl | exact difs_at h9zz 33 rfl | exact difs_at h9zz 34 rfl | exact difs_at h9zz 35 rfl | exact difs_at h9zz 36 rfl | exact difs_at h9zz 37 rfl | exact difs_at h9zz 38 rfl | exact difs_at h9zz 39 rfl) | (refine difs_pick' (by with_reducible assumption) ?_; intro h9zz; first | exact difs_at' h9zz 0 rfl | exact difs_at' h9zz 1 rfl | exact difs_at' h9zz 2 rfl | exact difs_at' h9zz 3 rfl | exact difs_at' h9zz 4 rfl | exact difs_at' h9zz 5 rfl | exact difs_at' h9zz 6 rfl | exact difs_at' h9zz 7 rfl | exact difs_at' h9zz 8 rfl | exact difs_at' h9zz 9 rfl | exact difs_at' h9zz 10 rfl | exact difs_at' h9zz 11 rfl | exact difs_at' h9zz 12 rfl | exact difs_at' h9zz 13 rfl | exact difs_at' h9zz 14 rfl | exact difs_at' h9zz 15 rfl | exact difs_at' h9zz 16 rfl | exact difs_at' h9zz 17 rfl | exact difs_at' h9zz 18 rfl | exact difs_at' h9zz 19 rfl | exact difs_at' h9zz 20 rfl | exact difs_at' h9zz 21 rfl | exact difs_at' h9zz 22 rfl | exact difs_at' h9zz 23 rfl | exact difs_at' h9zz 24 rfl | exact difs_at' h9zz 25 rfl | exact difs_at' h9zz 26 rfl | exact difs_at' h9zz 27 rfl | exact difs_at' h9zz 28 rfl | exact difs_at' h9zz 29 rfl | exact difs_at' h9zz 30 rfl | exact difs_at' h9zz 31 rfl | exact difs_at' h9zz 32 rfl | exact difs_at' h9zz 33 rfl | exact difs_at' h9zz 34 rfl | exact difs_at' h9zz 35 rfl | exact difs_at' h9zz 36 rfl | exact difs_at' h9zz 37 rfl | exact difs_at' h9zz 38 rfl | exact difs_at' h9zz 39 rfl))
  k_with "my ctl" => (first | with_reducible exact ct_all | with_reducible exact ct_left | with_reducible exact ct_right | with_reducible exact ct_nil | with_reducible exact ct_one | ((with_reducible refine ct_keep ?_); k_extra "my ctl") | ((with_reducible refine ct_skip ?_); k_extra "my ctl"))
  k_with "my o3l" => (first | with_reducible exact o3_id | with_reducible exact o3_nil | ((with_reducible refine o3_keep ?_); k_extra "my o3l") | ((with_reducible refine o3_skip ?_); k_extra "my o3l"))
  k_with "my o3" => (first | with_reducible assumption | ((try simp only [List.cons_append, List.nil_append]); refine off3By (by with_reducible assumption) ?_; k_extra "my o3l") | (refine And.intro ⟨by k_ne, by k_ne, by k_ne⟩ ?_; k_extra "my o3"))
  k_with "my okl" => (first | with_reducible exact ok_id | with_reducible exact ok_left | with_reducible exact ok_right | with_reducible exact ok_nil | ((with_reducible refine ok_keep ?_); k_extra "my okl") | ((with_reducible refine ok_skip ?_); k_extra "my okl"))
  k_with "my offtail" => (first | with_reducible exact off_difs (by with_reducible assumption) | exact off_lt (by with_reducible assumption) | exact off_of (by with_reducible assumption) | exact off_all (by with_reducible assumption) | exact off_left (by with_reducible assumption) | exact off_right (by with_reducible assumption) | exact off_lt (all_up (by with_reducible assumption)) | exact off_lt (all_up (all_up (by with_reducible assumption))) | exact off_lt (all_up (all_up (all_up (by with_reducible assumption)))) | exact off_lt (all_up (all_up (all_up (all_up (by with_reducible assumption))))) | exact off_lt (all_up (all_up (all_up (all_up (all_up (by with_reducible assumption)))))) | exact off_lt (all_up (all_up (all_up (all_up (all_up (all_up (by with_reducible assumption))))))) | exact off_lt (And.right (by with_reducible assumption)) | exact And.right (by with_reducible assumption) | exact off_lt (And.right (And.right (by with_reducible assumption))) | exact And.right (And.right (by with_reducible assumption)) | exact off_lt (And.right (And.right (And.right (by with_reducible assumption)))) | exact And.right (And.right (And.right (by with_reducible assumption))) | exact off_lt (And.right (And.right (And.right (And.right (by with_reducible assumption))))) | exact And.right (And.right (And.right (And.right (by with_reducible assumption)))) | exact off_lt (And.right (And.right (And.right (And.right (And.right (by with_reducible assumption)))))) | exact And.right (And.right (And.right (And.right (And.right (by with_reducible assumption))))) | exact off_lt (And.right (And.right (And.right (And.right (And.right (And.right (by with_reducible assumption))))))) | exact And.right (And.right (And.right (And.right (And.right (And.right (by with_reducible assumption)))))) | exact off_lt (And.right (And.right (And.right (And.right (And.right (And.right (And.right (by with_reducible assumption)))))))) | exact And.right (And.right (And.right (And.right (And.right (And.right (And.right (by with_reducible assumption))))))) | exact off_lt (And.right (And.right (And.right (And.right (And.right (And.right (And.right (And.right (by with_reducible assumption))))))))) | exact And.right (And.right (And.right (And.right (And.right (And.right (And.right (And.right (by with_reducible assumption)))))))) | exact off_lt (And.right (And.right (And.right (And.right (And.right (And.right (And.right (And.right (And.right (by with_reducible assumption)))))))))) | exact And.right (And.right (And.right (And.right (And.right (And.right (And.right (And.right (And.right (by with_reducible assumption))))))))) | exact off_lt (And.right (And.right (And.right (And.right (And.right (And.right (And.right (And.right (And.right (And.right (by with_reducible assumption))))))))))) | exact And.right (And.right (And.right (And.right (And.right (And.right (And.right (And.right (And.right (And.right (by with_reducible assumption)))))))))) | exact off_lt (And.right (And.right (And.right (And.right (And.right (And.right (And.right (And.right (And.right (And.right (And.right (by with_reducible assumption)))))))))))) | exact And.right (And.right (And.right (And.right (And.right (And.right (And.right (And.right (And.right (And.right (And.right (by with_reducible assumption))))))))))) | exact off_lt (And.right (And.right (And.right (And.right (And.right (And.right (And.right (And.right (And.right (And.right (And.right (And.right (by with_reducible assumption))))))))))))) | exact And.right (And.right (And.right (And.right (And.right (And.right (And.right (And.right (And.right (And.right (And.right (And.right (by with_reducible assumption)))))))))))) | exact off_lt (And.right (And.right (And.right (And.right (And.right (And.right (And.right (And.right (And.right (And.right (And.right (And.right (And.right (by with_reducible assumption)))))))))))))) | exact And.right (And.right (And.right (And.right (And.right (And.right (And.right (And.right (And.right (And.right (And.right (And.right (And.right (by with_reducible assumption))))))))))))) | exact off_lt (And.right (And.right (And.right (And.right (And.right (And.right (And.right (And.right (And.right (And.right (And.right (And.right (And.right (And.right (by with_reducible assumption))))))))))))))) | exact And.right (And.right (And.right (And.right (And.right (And.right (And.right (And.right (And.right (And.right (And.right (And.right (And.right (And.right (by with_reducible assumption)))))))))))))))
  k_with "my off1" => (first | exact True.intro | with_reducible assumption | exact off_difs (by with_reducible assumption) | (refine offBy (by with_reducible assumption) ?_; k_extra "my okl") | (refine offByC (by with_reducible assumption) ?_; k_extra "my ctl") | (refine And.intro ?_ ?_; (k_extra "my ne"); k_extra "my off1") | k_extra "my offtail")
  k_with "my above" => (first | exact above0 | (simp only [List.nil_append, List.cons_append]; k_extra "my above") | (refine aboveC ?_ ?_; (k_extra "my off1"); (k_extra "my above")))
  k_with "my need" => (first | exact List.forall_mem_nil _ | (refine' List.forall_mem_cons.mpr ⟨(by k_mem), (by k_extra "my need")⟩))
  k_with "my split" => (skip)
  k_with "my @call builtin:list.pop" => ((k_here; k_dflt (refine' pop0 (by k_asm) (by k_asm) (by k_upd) (by first | assumption | (simp only [List.length_cons] at *; omega)) ?_; k_whole); intro h'zz F'zz N'zz; (try dsimp only [List.nil_append, List.cons_append] at N'zz)))
  k_with "my len" => (((try dsimp only); (try simp only [rjust_len, ljust_len, Str.length_append, len_space, len_nil, len_dot]); omega))
  k_with "my @binaryOp Add str str" => ((k_here; (with_reducible show wpAny _ _ (binaryOp Operator.Add (Value.str _ _) (Value.str _ _)) _ _ _); refine add_ (by k_extra "my len") ?_; intro _ _))
  k_with "my strs" => (first | with_reducible assumption | exact StrsAre.nil | (refine' StrsAre.cons _ _ (by k_extra "my strs")))
  k_with "my @call builtin:str.join" => ((k_here; (with_reducible show wpAny _ _ (call (Value.builtin "str.join") [Value.str _ _, Value.ref _]) _ _ _); k_dflt (refine' k_join (by k_asm) (by k_mem) (by (with_unfolding_all k_extra "my strs")) (by k_extra "my each") (by exact Nat.le_of_ble_eq_true rfl) ?_; k_whole; intro _ _)))
  k_with "my tlen" => (first | decide | exact Nat.le_trans (num_len (by omega) (by omega)) (by decide) | k_extra "my len")
  k_with "my each" => (first | assumption | exact List.forall_mem_nil _ | (refine List.forall_mem_cons.mpr ⟨by k_extra "my tlen", ?_⟩; k_extra "my each"))
  k_with "my @compareOp In str str" => ((k_here; refine in_no (by assumption) ?_))
  k_with "my @call builtin:str.isprintable" => ((k_here; refine KXw.isprintable (b := true) (by assumption) ?_))
  k_with "my @WhlIf" => ((refine WhlIf.no (decide_eq_false (by rw [pow18]; omega)) ?_))
  k_with "my @subscriptTail Attribute" => ((k_here; k_dflt (refine kba_turn (value' := PySem.Expr.Name (PySem.Str.ofString "_") ⟨0, 0, 0, 0⟩) (fun _ => rfl) ?_)))
  k_with "my @subscriptTail Subscript" => ((k_here; k_dflt (refine kba_turn (value' := PySem.Expr.Name (PySem.Str.ofString "_") ⟨0, 0, 0, 0⟩) (fun _ => rfl) ?_)))
  k_with "my @execs cons Assign cons" => (first | (k_here; k_gentoks) | ((with_reducible refine wpAny_execs_cons ?_); try dsimp only))
  k_with "my @execs cons" => (first | (k_here; k_gentoks) | ((with_reducible refine wpAny_execs_cons ?_); try dsimp only))
  k_with "my @exec Assign" => ((k_here; (with_reducible show wpAny _ _ (exec (PySem.Stmt.Assign [PySem.Expr.Name _ _] _ _) _) _ _ _); k_dflt (refine wpAny_Assign_Name ?_)))
  trivial
theorem off_D1 : True := by
  w_top off
  trivial
-- part D1
theorem ln_D11 : True := by
  k_with "my @exec While" => ((k_here; k_dflt (refine whl_start 100 ?_)))
  trivial
theorem padded_ (w : World) (x : Str) (t u : Tok) (k : Int) (h0 : 0 ≤ k) (h1 : k ≤ 200) (hx : x.length ≤ 100) :
  Tell 900 2000 w 377 [.str x t, .int k u, .bool false] [] [] [] (fun R => ∀ tk, R (.str (Str.ofString " " ++ Txt.rjust x k) tk) [] []) := by
  unfold Tell
  intro p loose mean mg mb gd cn cs ca ccd cl outer A₀ base h₀ L m news s Q E B F X N T hk hsep hret
  simp only [List.cons_append, List.nil_append] at N
  walk_at "tell enter"
  try k_fold
  k_steps
  rw [mul_one']
  exact hret _ _ _ (by assumption) (by assumption) above0
theorem whole_ (w : World) (k : Int) (u : Tok) (h0 : -100 ≤ k) (h1 : k ≤ 200) :
  Tell 900 2000 w 66 [.int k u] [] [] [] (fun R => ∀ tk, R (.str (Str.ofString (toString k)) tk) [] []) := by
  unfold Tell
  intro p loose mean mg mb gd cn cs ca ccd cl outer A₀ base h₀ L m news s Q E B F X N T hk hsep hret
  simp only [List.cons_append, List.nil_append] at N
  walk_at "tell enter"
  try k_fold
  k_steps
  all_goals rw [join_cat]
  · dsimp only [cat]
    rw [if_pos (by assumption), app_empty, ← neg_text (by assumption)]
    exact hret _ _ _ (by assumption) (drop_to (by assumption) (fun p hp => .tail _ hp)) above0
  · dsimp only [cat]
    rw [if_neg (by assumption), app_empty]
    exact hret _ _ _ (by assumption) (drop_to (by assumption) (fun p hp => .tail _ hp)) above0
theorem encode_ (w : World) (x : Str) (t : Tok) (hx : Txt.isprintable x = true) (h1 : (Builtin.Str.occurrences x (Str.ofString "\\") 0 x.length 1).isEmpty = true) (h2 : (Builtin.Str.occurrences x (Str.ofString "\"") 0 x.length 1).isEmpty = true) :
  Tell 900 2000 w 243 [.str x t, .bool false] [] [] [] (fun R => ∀ tk, R (.str x tk) [] []) := by
  unfold Tell
  intro p loose mean mg mb gd cn cs ca ccd cl outer A₀ base h₀ L m news s Q E B F X N T hk hsep hret
  simp only [List.cons_append, List.nil_append] at N
  walk_at "tell enterC"
  try k_fold
  k_steps
  exact hret _ _ _ (by assumption) (drop_to (by assumption) (fun p hp => .tail _ hp)) above0
theorem widest2 (w : World) (a : Addr) (x y : Str) (t u : Tok) (n : Nat) (hx : x.length ≤ 100) (hy : y.length ≤ 100) :
  Tell 900 2000 w 278 [.ref a] [] [(a, lst [.str x t, .str y u] n)] [] (fun R => ∀ tk, R (.int (max (x.length : Int) (y.length : Int)) tk) [] []) := by
  unfold Tell
  intro p loose mean mg mb gd cn cs ca ccd cl outer A₀ base h₀ L m news s Q E B F X N T hk hsep hret
  simp only [List.cons_append, List.nil_append] at N
  walk_at "tell enter"
  try k_fold
  k_steps
  refine hret' (hret _) ?_ (by assumption) (drop_to (by assumption) (fun p hp => .tail _ hp))
  omega
theorem widest1 (w : World) (a : Addr) (x : Str) (t : Tok) (n : Nat) (hx : x.length ≤ 100)  :
  Tell 900 2000 w 278 [.ref a] [] [(a, lst [.str x t] n)] [] (fun R => ∀ tk, R (.int (x.length : Int) tk) [] []) := by
  unfold Tell
  intro p loose mean mg mb gd cn cs ca ccd cl outer A₀ base h₀ L m news s Q E B F X N T hk hsep hret
  simp only [List.cons_append, List.nil_append] at N
  walk_at "tell enter"
  try k_fold
  k_steps
  refine hret' (hret _) ?_ (by assumption) (drop_to (by assumption) (fun p hp => .tail _ hp))
  omega
theorem plum_nil (w : World) (a : Addr) (n : Nat) (k : Int) (t : Tok) (hk0 : 0 < k) (hk1 : k ≤ 60) :
  Tell 900 2000 w 439 [.ref a, .int k t] [] [(a, lst [] n)] [a] (fun R => ∀ tk r vs' ns' n', IntsAre vs' ns' → ns'.length ≤ 50 → 0 ≤ r → r < k → R (.int r tk) [(a, lst vs' n')] []) := by
  unfold Tell
  intro p loose mean mg mb gd cn cs ca ccd cl outer A₀ base h₀ L m news s Q E B F X N T hk hsep hret
  simp only [List.cons_append, List.nil_append] at N
  walk_at "tell enter"
  try k_fold
  k_steps
  exact hret _ _ [] [] _ .nil (Nat.zero_le _) (Int.le_refl _) hk0 _ _ (by assumption) (drop_to (by assumption) (fun p hp => .tail _ hp)) above0
theorem plum_cons (w : World) (a : Addr) (x : Int) (tx : Tok) (vs : List Value) (ns : List Int) (n : Nat) (k : Int) (t : Tok) (hi : IntsAre vs ns) (hl : ns.length ≤ 49) (hk0 : 0 < k) (hk1 : k ≤ 60) :
  Tell 900 2000 w 439 [.ref a, .int k t] [] [(a, lst (.int x tx :: vs) n)] [a] (fun R => ∀ tk r vs' ns' n', IntsAre vs' ns' → ns'.length ≤ 50 → 0 ≤ r → r < k → R (.int r tk) [(a, lst vs' n')] []) := by
  unfold Tell
  intro p loose mean mg mb gd cn cs ca ccd cl outer A₀ base h₀ L m news s Q E B F X N T hk hsep hret
  simp only [List.cons_append, List.nil_append] at N
  walk_at "tell enter"
  have hii := IntsAre.cons x tx hi
  have hll : (x :: ns).length ≤ 50 := by simp only [List.length_cons]; omega
  have hvl : (Value.int x tx :: vs).length ≤ 1000 := by rw [hii.length]; omega
  have hap : ∀ p ∈ news, p.1 ≠ a := hsep a (.head _)
  try k_fold
  k_steps
  · rename_i hbad _ _ _ _
    exact absurd hbad (by simp)
  · exact hret _ _ _ _ _ hi (by omega) (Int.fmod_nonneg_of_pos _ hk0) (Int.fmod_lt_of_pos _ hk0) _ _ (by assumption) (drop_to (by assumption) (fun p hp => .tail _ hp)) above0
theorem plum_ (w : World) (a : Addr) (vs : List Value) (ns : List Int) (n : Nat) (k : Int) (t : Tok) (hi : IntsAre vs ns) (hl : ns.length ≤ 50) (hk0 : 0 < k) (hk1 : k ≤ 60) :
  Tell 900 2000 w 439 [.ref a, .int k t] [] [(a, lst vs n)] [a] (fun R => ∀ tk r vs' ns' n', IntsAre vs' ns' → ns'.length ≤ 50 → 0 ≤ r → r < k → R (.int r tk) [(a, lst vs' n')] []) := by
  cases hi with
  | nil => exact plum_nil w a n k t hk0 hk1
  | cons x tx hi => exact plum_cons w a x tx _ _ n k t hi (by simp only [List.length_cons] at hl; omega) hk0 hk1
abbrev vecD (P : Params) (t1 t2 t3 t4 t5 : Tok) (k i a : Value) : Obj :=
  dictOf [⟨PyData.keyHash P (Str.ofString "kind"), .str (Str.ofString "kind") t1, k⟩, ⟨PyData.keyHash P (Str.ofString "items"), .str (Str.ofString "items") t2, i⟩, ⟨PyData.keyHash P (Str.ofString "attrs"), .str (Str.ofString "attrs") t3, a⟩,
    ⟨PyData.keyHash P (Str.ofString "shared"), .str (Str.ofString "shared") t4, .bool false⟩, ⟨PyData.keyHash P (Str.ofString "loose"), .str (Str.ofString "loose") t5, .bool false⟩] 5
theorem vec_above {x dx : Addr} {o1 o2 : Obj} {l : Led} (h : ∀ p ∈ l, p.1 < dx) (h2 : dx < x) : ∀ q ∈ [(x, o1), (dx, o2)], LCg.Off1 q.1 l :=
  aboveC (off_all fun p hp => Nat.lt_trans (h p hp) h2) (aboveC (off_all h) above0)
theorem vector3 (w : World) (k i a : Value) :
  Tell 800 1600 w 199 [k, i, a] [] [] [] (fun R => ∀ x dx t1 t2 t3 t4 t5, Dif dx x → R (.ref x) [] [(x, instObj 199 dx), (dx, vecD w.params t1 t2 t3 t4 t5 k i a)]) := by
  unfold Tell
  intro p loose mean mg mb gd cn cs ca ccd cl outer A₀ base h₀ L m news s Q E B F X N T hk hsep hret
  simp only [List.nil_append] at N
  walk_at "tell class"
  try k_fold
  k_steps
  exact hret _ _ _ _ _ _ _ (Nat.ne_of_lt (by assumption)) _ _ (by assumption) (by assumption) (vec_above (by assumption) (by assumption))
theorem vector2 (w : World) (k i : Value) :
  Tell 800 1600 w 199 [k, i] [] [] [] (fun R => ∀ x dx t1 t2 t3 t4 t5, Dif dx x → R (.ref x) [] [(x, instObj 199 dx), (dx, vecD w.params t1 t2 t3 t4 t5 k i .none)]) := by
  unfold Tell
  intro p loose mean mg mb gd cn cs ca ccd cl outer A₀ base h₀ L m news s Q E B F X N T hk hsep hret
  simp only [List.nil_append] at N
  walk_at "tell class"
  try k_fold
  k_steps
  exact hret _ _ _ _ _ _ _ (Nat.ne_of_lt (by assumption)) _ _ (by assumption) (by assumption) (vec_above (by assumption) (by assumption))
theorem off_D1u : True := by
  w_top off
  trivial
-- part D1u
inductive Pull (a : Addr) (o : Obj) : Led → Led → Prop
  | head {l : Led} : Pull a o ((a, o) :: l) l
  | tail {p : Addr × Obj} {l l' : Led} : Pull a o l l' → Pull a o (p :: l) (p :: l')
theorem Pull.mem {a : Addr} {o : Obj} {l l' : Led} (P : Pull a o l l') : ∀ p ∈ (a, o) :: l', p ∈ l := by
  induction P with
  | head => exact fun _ h => h
  | tail P ih =>
    intro p hp
    rcases List.mem_cons.mp hp with rfl | hp
    · exact .tail _ (ih _ (.head _))
    · rcases List.mem_cons.mp hp with rfl | hp
      · exact .head _
      · exact .tail _ (ih _ (.tail _ hp))
theorem pull1 {h₀ h : Heap} {L : Addr} {a : Addr} {o : Obj} {l l' : Led} (N : News h₀ L h l) (P : Pull a o l l') : News h₀ L h ([(a, o)] ++ l') := drop_to N P.mem
theorem mt1 {a : Addr} {l : Led} (h : ∀ p ∈ l, p.1 ≠ a) : ∀ b ∈ [a], ∀ p ∈ l, p.1 ≠ b := fun b hb p hp => by
  rw [List.mem_singleton.mp hb]
  exact h p hp
theorem ln_D1u1 : True := by
  k_with "my pull" => (first | exact Pull.head | (refine' Pull.tail (by k_extra "my pull")))
  k_with "my @call ref" => ((k_here; (with_reducible show wpAny _ _ (call (Value.ref 66) _ _) _ _ _); k_dflt (refine' Tell.useQ (by k_asm) (by k_asm) (by k_asm) (by k_asm) (by k_asm) (by first | exact rfl | assumption) (by k_extra "my need") (by exact Nat.le_of_ble_eq_true rfl) (by exact Nat.le_of_ble_eq_true rfl) (whole_ _ _ _ (by omega) (by omega)) ?_; k_whole; intro tkzz h'zz tk'zz F'zz N'zz l1zz; (try simp only [List.nil_append, List.cons_append] at N'zz); clear l1zz; (try dsimp only); (try k_sweep))))
  k_with "my @call ref" => ((k_here; (with_reducible show wpAny _ _ (call (Value.ref 377) _ _) _ _ _); k_dflt (refine' Tell.useQ (by k_asm) (by k_asm) (by k_asm) (by k_asm) (by k_asm) (by first | exact rfl | assumption) (by k_extra "my need") (by exact Nat.le_of_ble_eq_true rfl) (by exact Nat.le_of_ble_eq_true rfl) (padded_ _ _ _ _ _ (by omega) (by omega) (by k_extra "my len")) ?_; k_whole; intro tkzz h'zz tk'zz F'zz N'zz l1zz; (try simp only [List.nil_append, List.cons_append] at N'zz); clear l1zz; (try dsimp only); (try k_sweep))))
  k_with "my @call ref" => ((k_here; (with_reducible show wpAny _ _ (call (Value.ref 243) _ _) _ _ _); k_dflt (refine' Tell.useQ (by k_asm) (by k_asm) (by k_asm) (by k_asm) (by k_asm) (by first | exact rfl | assumption) (by k_extra "my need") (by exact Nat.le_of_ble_eq_true rfl) (by exact Nat.le_of_ble_eq_true rfl) (encode_ _ _ _ (by first | assumption | decide +kernel) (by first | assumption | decide +kernel) (by first | assumption | decide +kernel)) ?_; k_whole; intro tkzz h'zz tk'zz F'zz N'zz l1zz; (try simp only [List.nil_append, List.cons_append] at N'zz); clear l1zz; (try dsimp only); (try k_sweep))))
  k_with "my @call ref" => ((k_here; (with_reducible show wpAny _ _ (call (Value.ref 278) _ _) _ _ _); k_dflt (refine' Tell.useQ (by k_asm) (by k_asm) (by k_asm) (by k_asm) (by k_asm) (by first | exact rfl | assumption) (by k_extra "my need") (by exact Nat.le_of_ble_eq_true rfl) (by exact Nat.le_of_ble_eq_true rfl) (widest2 _ _ _ _ _ _ _ (by k_extra "my len") (by k_extra "my len")) ?_; k_whole; intro tkzz h'zz tk'zz F'zz N'zz l1zz; (try simp only [List.nil_append, List.cons_append] at N'zz); clear l1zz; (try dsimp only); (try k_sweep))))
  k_with "my @call ref" => ((k_here; (with_reducible show wpAny _ _ (call (Value.ref 278) _ _) _ _ _); k_dflt (refine' Tell.useQ (by k_asm) (by k_asm) (by k_asm) (by k_asm) (by k_asm) (by first | exact rfl | assumption) (by k_extra "my need") (by exact Nat.le_of_ble_eq_true rfl) (by exact Nat.le_of_ble_eq_true rfl) (widest1 _ _ _ _ _ (by k_extra "my len")) ?_; k_whole; intro tkzz h'zz tk'zz F'zz N'zz l1zz; (try simp only [List.nil_append, List.cons_append] at N'zz); clear l1zz; (try dsimp only); (try k_sweep))))
  k_with "my @call ref" => ((k_here; (with_reducible show wpAny _ _ (call (Value.ref 199) [_, _, _] _) _ _ _); k_dflt (refine' Tell.useQ (by k_asm) (by k_asm) (by k_asm) (by k_asm) (by k_asm) (by first | exact rfl | assumption) (by k_extra "my need") (by exact Nat.le_of_ble_eq_true rfl) (by exact Nat.le_of_ble_eq_true rfl) (vector3 _ _ _ _) ?_; k_whole; intro xzz dxzz t1zz t2zz t3zz t4zz t5zz hxzz h'zz tk'zz F'zz N'zz l1zz; (try simp only [List.nil_append, List.cons_append] at N'zz); (have l2zz := difs_of (below2 l1zz).1; have l3zz := difs_of (below2 l1zz).2; clear l1zz; (try simp only [List.nil_append, List.cons_append] at l2zz l3zz); skip); (try dsimp only); (try k_sweep))))
  k_with "my @call ref" => ((k_here; (with_reducible show wpAny _ _ (call (Value.ref 199) [_, _] _) _ _ _); k_dflt (refine' Tell.useQ (by k_asm) (by k_asm) (by k_asm) (by k_asm) (by k_asm) (by first | exact rfl | assumption) (by k_extra "my need") (by exact Nat.le_of_ble_eq_true rfl) (by exact Nat.le_of_ble_eq_true rfl) (vector2 _ _ _) ?_; k_whole; intro xzz dxzz t1zz t2zz t3zz t4zz t5zz hxzz h'zz tk'zz F'zz N'zz l1zz; (try simp only [List.nil_append, List.cons_append] at N'zz); (have l2zz := difs_of (below2 l1zz).1; have l3zz := difs_of (below2 l1zz).2; clear l1zz; (try simp only [List.nil_append, List.cons_append] at l2zz l3zz); skip); (try dsimp only); (try k_sweep))))
  k_with "my @call ref" => ((k_here; (with_reducible show wpAny _ _ (call (Value.ref 439) [_, _] _) _ _ _); k_dflt (refine' Tell.use2 (by k_asm) (by k_asm) (by k_asm) (by (refine' pull1 (by k_asm) (by k_extra "my pull"))) (by k_asm) (by first | exact rfl | assumption) (by (refine mt1 ?_; k_all)) (by exact Nat.le_of_ble_eq_true rfl) (by exact Nat.le_of_ble_eq_true rfl) (plum_ _ _ _ _ _ _ _ (by assumption) (by assumption) (by omega) (by omega)) ?_; k_whole; intro tkzz rzz vs'zz ns'zz n'zz hi'zz hl'zz h0zz h1zz h'zz tk'zz F'zz N'zz l1zz; (try simp only [List.nil_append, List.cons_append] at N'zz); clear l1zz; (try dsimp only); (try k_sweep))))
  trivial
theorem off_D2 : True := by
  w_top off
  trivial
-- part D2
theorem fmt_int (w : World) (k : Int) (u t t2 : Tok) (h0 : -100 ≤ k) (h1 : k ≤ 200) :
  Tell 800 1600 w 265 [.str (Str.ofString "integer") t, .int k u, .int 7 t2, .bool false] [] [] [] (fun R => ∀ tk, R (.str (Str.ofString (toString k)) tk) [] []) := by
  unfold Tell
  intro p loose mean mg mb gd cn cs ca ccd cl outer A₀ base h₀ L m news s Q E B F X N T hk hsep hret
  simp only [List.cons_append, List.nil_append] at N
  walk_at "tell enter"
  try k_fold
  k_steps
  exact hret _ _ _ (by assumption) (by assumption) above0
theorem fmt_str (w : World) (x : Str) (u t t2 : Tok) (hx : Txt.isprintable x = true) (h1 : (Builtin.Str.occurrences x (Str.ofString "\\") 0 x.length 1).isEmpty = true) (h2 : (Builtin.Str.occurrences x (Str.ofString "\"") 0 x.length 1).isEmpty = true) :
  Tell 800 1600 w 265 [.str (Str.ofString "character") t, .str x u, .int 7 t2, .bool false] [] [] [] (fun R => ∀ tk, R (.str x tk) [] []) := by
  unfold Tell
  intro p loose mean mg mb gd cn cs ca ccd cl outer A₀ base h₀ L m news s Q E B F X N T hk hsep hret
  simp only [List.cons_append, List.nil_append] at N
  walk_at "tell enter"
  try k_fold
  k_steps
  exact hret _ _ _ (by assumption) (by assumption) above0
theorem grown_ (w : World) (k : Int) (x : Str) (u t : Tok) (h0 : 0 ≤ k) (h1 : k ≤ 200) (hx : x.length ≤ 100) :
  Tell 800 1600 w 231 [.int k t, .str x u] [] [] [] (fun R => ∀ tk, R (.int (k + x.length) tk) [] []) := by
  unfold Tell
  intro p loose mean mg mb gd cn cs ca ccd cl outer A₀ base h₀ L m news s Q E B F X N T hk hsep hret
  simp only [List.cons_append, List.nil_append] at N
  walk_at "tell enter"
  try k_fold
  k_steps
  exact hret _ _ _ (by assumption) (by assumption) above0
theorem ln_D21 : True := by
  k_with "my @call ref" => ((k_here; (with_reducible show wpAny _ _ (call (Value.ref 265) _ _) _ _ _); k_dflt (refine' Tell.useQ (by k_asm) (by k_asm) (by k_asm) (by k_asm) (by k_asm) (by first | exact rfl | assumption) (by k_extra "my need") (by exact Nat.le_of_ble_eq_true rfl) (by exact Nat.le_of_ble_eq_true rfl) (fmt_int _ _ _ _ _ (by omega) (by omega)) ?_; k_whole; intro tkzz h'zz tk'zz F'zz N'zz l1zz; (try simp only [List.nil_append, List.cons_append] at N'zz); clear l1zz; (try dsimp only); (try k_sweep))))
  k_with "my @call ref" => ((k_here; (with_reducible show wpAny _ _ (call (Value.ref 265) _ _) _ _ _); k_dflt (refine' Tell.useQ (by k_asm) (by k_asm) (by k_asm) (by k_asm) (by k_asm) (by first | exact rfl | assumption) (by k_extra "my need") (by exact Nat.le_of_ble_eq_true rfl) (by exact Nat.le_of_ble_eq_true rfl) (fmt_str _ _ _ _ _ (by first | assumption | decide +kernel) (by first | assumption | decide +kernel) (by first | assumption | decide +kernel)) ?_; k_whole; intro tkzz h'zz tk'zz F'zz N'zz l1zz; (try simp only [List.nil_append, List.cons_append] at N'zz); clear l1zz; (try dsimp only); (try k_sweep))))
  k_with "my @call ref" => ((k_here; (with_reducible show wpAny _ _ (call (Value.ref 231) _ _) _ _ _); k_dflt (refine' Tell.useQ (by k_asm) (by k_asm) (by k_asm) (by k_asm) (by k_asm) (by first | exact rfl | assumption) (by k_extra "my need") (by exact Nat.le_of_ble_eq_true rfl) (by exact Nat.le_of_ble_eq_true rfl) (grown_ _ _ _ _ _ (by omega) (by omega) (by k_extra "my len")) ?_; k_whole; intro tkzz h'zz tk'zz F'zz N'zz l1zz; (try simp only [List.nil_append, List.cons_append] at N'zz); clear l1zz; (try dsimp only); (try k_sweep))))
  trivial
theorem off_Dn : True := by
  w_top off
  trivial
-- part Dn
theorem ln_Dn1 : True := by
  k_with "my @getMethod ref" => ((k_here; (with_reducible show wpAny _ _ (getMethod (Value.ref _) (Str.ofString "get") _) _ _ _); k_dflt (refine kdg_method (knd := PySem.strKind _ _) (by k_asm) (by k_mem) (by k_asm) ?_)))
  k_with "my @call builtin:dict.get" => ((k_here; k_dflt (first | refine kdg_get1 (knd := PySem.strKind _ _) (by k_asm) (by k_mem) (by k_asm) (by k_asm) (strKind_is _ _ _ _) (some _) (by rfl) ?_ | refine kdg_get1 (knd := PySem.strKind _ _) (by k_asm) (by k_mem) (by k_asm) (by k_asm) (strKind_is _ _ _ _) none (by rfl) ?_); (try dsimp only [Option.getD])))
  k_with "my tailm" => (first | assumption | exact List.Mem.head _ | (refine List.Mem.tail _ ?_; k_extra "my tailm"))
  trivial
theorem cend {h₀ : Heap} {L I C D : Addr} {m : Str → Option Value} {s₁ : Shared} {oI oC oD : Obj} {S : Led → Prop} {rest : Value → Led → Prop} {y : Value} {h' : Heap} {tk : Nat} {all l1 l2 news' : Led}
    (F : Fr h₀ L h' m) (N : News h₀ L h' all) (p1 : Pull I oI all l1) (p2 : Pull C oC l1 l2) (p3 : Pull D oD l2 news') (off : LCg.Off3 I C D news') (hS : S news') (r : rest y news') :
    LCg.CompEnd h₀ L m s₁ I oI C oC D oD S rest y { s₁ with heap := h', toks := tk } := by
  refine LCg.CompEnd.intro F N news' ?_ off hS r
  intro p hp
  rcases List.mem_cons.mp hp with rfl | hp
  · exact p1.mem _ (.head _)
  refine p1.mem _ (.tail _ (p2.mem _ ?_))
  rcases List.mem_cons.mp hp with rfl | hp
  · exact .head _
  refine .tail _ (p3.mem _ ?_)
  exact hp
theorem ln_Dn2 : True := by
  k_with "my o3b" => (((try simp only [List.cons_append, List.nil_append]); refine off3By (by with_reducible assumption) ?_; k_extra "my o3l"))
  k_with "my cend" => ((k_dflt (refine' cend (by k_asm) (by k_asm) (by k_extra "my pull") (by k_extra "my pull") (by k_extra "my pull") (by first | assumption | (k_whole; first | k_extra "my o3b" | (refine And.intro ⟨by k_ne, by k_ne, by k_ne⟩ ?_; k_extra "my o3b") | (refine And.intro ⟨by k_ne, by k_ne, by k_ne⟩ ?_; assumption) | (refine And.intro ⟨by k_ne, by k_ne, by k_ne⟩ ?_; refine And.intro ⟨by k_ne, by k_ne, by k_ne⟩ ?_; assumption))) (by first | exact True.intro | exact Or.inl (Or.inl (by assumption)) | exact Or.inl (by assumption) | exact Or.inr ⟨_, by k_mem, rfl, _, rfl⟩) ?_)))
  k_with "my @CompEnd" => ((k_extra "my cend"))
  trivial
theorem news_dimn {h₀ h : Heap} {L b c1 c2 : Addr} {lb o1 o2 : Obj} {l news : Led} (N : News h₀ L h ((b, lb) :: (c2, o2) :: (c1, o1) :: l)) (hs : ∀ p ∈ news, p ∈ l) : News h₀ L h ([(b, lb), (c1, o1), (c2, o2)] ++ ([] ++ news)) := by
  refine drop_to N ?_
  intro p hp
  simp only [List.cons_append, List.nil_append, List.mem_cons] at hp ⊢
  rcases hp with h | h | h | h
  · exact .inl h
  · exact .inr (.inr (.inl h))
  · exact .inr (.inl h)
  · exact .inr (.inr (.inr (hs p h)))
theorem dimn_ (w : World) (x dx dd xd nd dnd nl a1 d1 l1 a2 d2 l2 : Addr) (od : Obj) (kd it : Value) (vs1 vs2 : List Value) (n1 n2 : Nat) (t1 t2 t3 t4 t5 u1 u2 u3 u4 u5 u6 v1 v2 v3 v4 v5 v6 w1 w2 w3 w4 w5 w6 : Tok) (nl' : Nat)
  (h1 : vs1.length ≤ 10) (h2 : vs2.length ≤ 10) (hlo : (dd == sysModules) = false) (hd : Obj.IsDictOf (PySem.strKind PySem.Challenge.rw_qd0173_01.row.prog w) od [(Str.ofString "dim", Value.ref xd), (Str.ofString "dimnames", Value.ref nd)]) :
  Tell 800 1600 w 45 [.ref x] [] [(x, instObj 199 dx), (dx, vecD w.params t1 t2 t3 t4 t5 kd it (.ref dd)), (dd, od), (nd, instObj 199 dnd), (dnd, vecD w.params u1 u2 u3 u4 u5 (.str (Str.ofString "list") u6) (.ref nl) .none), (nl, lst [.ref a1, .ref a2] nl'),
     (a1, instObj 199 d1), (d1, vecD w.params v1 v2 v3 v4 v5 (.str (Str.ofString "character") v6) (.ref l1) .none), (a2, instObj 199 d2), (d2, vecD w.params w1 w2 w3 w4 w5 (.str (Str.ofString "character") w6) (.ref l2) .none), (l1, lst vs1 n1), (l2, lst vs2 n2)] []
    (fun R => ∀ b c1 c2 k1 k2, R (.ref b) [] [(b, LCg.lst [.ref c1, .ref c2]), (c1, lst vs1 k1), (c2, lst vs2 k2)]) := by
  unfold Tell
  intro p loose mean mg mb gd cn cs ca ccd cl outer A₀ base h₀ L m news s Q E B F X N T hk hsep hret
  simp only [List.cons_append, List.nil_append] at N
  walk_at "tell enter"
  try k_fold
  k_steps
  exact hret _ _ _ _ _ _ _ (by assumption) (news_dimn (by assumption) (by intro p9 h9; k_extra "my tailm")) (by k_extra "my above")
theorem reg_Lp : True := by
  w_top off
  k_with_none
  k_with "tell start" => ((unfold Tell; intro pzz loosezz meanzz mgzz mbzz gdzz cnzz cszz cazz ccdzz clzz outerzz A₀zz basezz h₀zz Lzz mzz newszz szz Qzz Ezz Bzz Fzz Xzz Nzz Tzz hkzz hsepzz hretzz; simp only [List.cons_append, List.nil_append] at Nzz; walk_at "tell enter"))
  k_with "my @call ref" => ((k_here; (with_reducible show wpAny _ _ (call (Value.ref _) _ _) _ _ _); first | walk_at "tell enter" | walk_at "tell enterC"))
  k_with "my cn" => (first | with_reducible exact And.left | with_reducible exact cn_id | ((with_reducible refine cn_sk ?_); k_extra "my cn"))
  k_with "my conj" => ((k_whole; (with_reducible refine cn_pick (by with_reducible assumption) ?_); k_extra "my cn"))
  k_with "my nn" => (first | with_reducible exact sd1 | with_reducible exact sd2 | with_reducible exact sd3 | with_reducible exact sd4 | with_reducible exact sd5 | with_reducible exact sd6 | with_reducible exact sd7 | with_reducible exact se1 | with_reducible exact se2 | with_reducible exact se3 | with_reducible exact se4 | with_reducible exact se5 | with_reducible exact se6 | with_reducible exact se7 | ((with_reducible refine su ?_); k_extra "my nn"))
  k_with "my lt0" => (first | with_reducible assumption | k_extra "my conj")
  k_with "my hyp" => (first | with_reducible assumption | with_reducible exact And.left (by with_reducible assumption) | with_reducible exact And.right (by with_reducible assumption))
  k_with "my omega" => ((k_whole; first | with_reducible assumption | decide | ((with_reducible show @Ne Nat _ _); first | (k_extra "my nn") | with_reducible exact nu1 (by k_extra "my lt0") | with_reducible exact nu2 (by k_extra "my lt0") | with_reducible exact nu3 (by k_extra "my lt0") | with_reducible exact nu4 (by k_extra "my lt0") | with_reducible exact nu5 (by k_extra "my lt0") | with_reducible exact nu6 (by k_extra "my lt0") | with_reducible exact nu7 (by k_extra "my lt0") | with_reducible exact nv1 (by k_extra "my lt0") | with_reducible exact nv2 (by k_extra "my lt0") | with_reducible exact nv3 (by k_extra "my lt0") | with_reducible exact nv4 (by k_extra "my lt0") | with_reducible exact nv5 (by k_extra "my lt0") | with_reducible exact nv6 (by k_extra "my lt0") | with_reducible exact nv7 (by k_extra "my lt0") | with_reducible exact ne_l (by k_extra "my lt0") | with_reducible exact ne_r (by k_extra "my lt0")) | ((with_reducible show @LE.le Nat _ _ _); first | with_reducible exact qm1 (by k_extra "my hyp") (by k_extra "my hyp") (by first | with_reducible exact mx2 (by with_reducible assumption) (by k_extra "my hyp") (by k_extra "my hyp") | with_reducible exact mx3 (by with_reducible assumption) (by k_extra "my hyp") (by k_extra "my hyp") (by k_extra "my hyp")) (by decide) | with_reducible exact qm2 (by k_extra "my hyp") (by first | with_reducible exact mx2 (by with_reducible assumption) (by k_extra "my hyp") (by k_extra "my hyp") | with_reducible exact mx3 (by with_reducible assumption) (by k_extra "my hyp") (by k_extra "my hyp") (by k_extra "my hyp")) (by decide) | with_reducible exact qn1 (by k_extra "my hyp") (by decide) | with_reducible exact qn2 (by k_extra "my hyp") (by decide) | with_reducible exact qn8 (by k_extra "my hyp") (by k_extra "my hyp") (by decide) | with_reducible exact qn7 (by k_extra "my hyp") (by k_extra "my hyp") (by decide) | with_reducible exact qn10 (by k_extra "my hyp") (by k_extra "my hyp") (by decide) | with_reducible exact qn14 (by k_extra "my hyp") (by k_extra "my hyp") (by decide) | with_reducible exact qn13 (by k_extra "my hyp") (by decide) | with_reducible exact qn5 (by k_extra "my hyp") (by decide) | with_reducible exact qn6 (by k_extra "my hyp") (by k_extra "my hyp") (by decide) | with_reducible exact qn6b (by k_extra "my hyp") (by k_extra "my hyp") (by decide) | with_reducible exact qn6c (by k_extra "my hyp") (by k_extra "my hyp") (by decide) | with_reducible exact qn11 (by k_extra "my hyp") (by decide)) | ((with_reducible show @LT.lt Nat _ _ _); first | with_reducible exact qn3 (by k_extra "my hyp") (by decide) | with_reducible exact qn4 (by k_extra "my hyp") (by decide) | with_reducible exact qn9 (by k_extra "my hyp") (by k_extra "my hyp") (by decide) | with_reducible exact qn12 (by k_extra "my hyp") (by k_extra "my hyp") (by decide)) | ((with_reducible show @LE.le Int _ _ _); first | with_reducible exact qi1 (by k_extra "my hyp") (by decide) | with_reducible exact qi2 (by k_extra "my hyp") (by decide) | with_reducible exact qi5 (by k_extra "my hyp") (by decide) | with_reducible exact qi6 (by k_extra "my hyp") (by decide) | with_reducible exact qc5 (by decide) | with_reducible exact qc2 (by k_extra "my hyp") (by decide) | with_reducible exact qc7 (by decide) | with_reducible exact qc4 (by k_extra "my hyp") (by decide) | with_reducible exact qc11 (by decide) | with_reducible exact qc13 (by k_extra "my hyp") (by decide) | with_reducible exact qq1 (by k_extra "my hyp") (by decide) | with_reducible exact qq2 (by k_extra "my hyp") (by decide) | with_reducible exact qi10 (by k_extra "my hyp") (by decide)) | ((with_reducible show @LT.lt Int _ _ _); first | with_reducible exact mxi2 (by with_reducible assumption) (by k_extra "my hyp") (by k_extra "my hyp") (by decide) | with_reducible exact mxi3 (by with_reducible assumption) (by k_extra "my hyp") (by k_extra "my hyp") (by k_extra "my hyp") (by decide) | with_reducible exact qc14 (by with_reducible assumption) (by decide) | with_reducible exact qi3 (by k_extra "my hyp") (by decide) | with_reducible exact qi4 (by k_extra "my hyp") (by decide) | with_reducible exact qi7 (by k_extra "my hyp") (by decide) | with_reducible exact qi8 (by k_extra "my hyp") (by decide) | with_reducible exact qc6 (by decide) | with_reducible exact qc1 (by k_extra "my hyp") (by decide) | with_reducible exact qc8 (by decide) | with_reducible exact qc3 (by k_extra "my hyp") (by decide) | with_reducible exact qc12 (by decide) | with_reducible exact qc9 (by k_extra "my hyp") (by decide) | with_reducible exact qi9 (by k_extra "my hyp") (by decide)) | ((with_reducible show @Eq Nat _ _); first | with_reducible exact qe1 | with_reducible exact qe2) | ((with_reducible show Not _); first | with_reducible exact qc10 (by k_extra "my hyp") (by decide))))
  k_with "my ne" => (((refine neN ?_); (try dsimp only); first | with_reducible assumption | exact dif_ne (by with_reducible assumption) | exact dif_ne' (by with_reducible assumption) | k_extra "my difne" | with_reducible exact ne_l (by k_extra "my conj") | with_reducible exact ne_r (by k_extra "my conj") | omega))
  k_with "my difne" => (first | (refine difs_pick (by with_reducible assumption) ?_; intro h9zz; first | exact difs_at h9zz 0 rfl | exact difs_at h9zz 1 rfl | exact difs_at h9zz 2 rfl | exact difs_at h9zz 3 rfl | exact difs_at h9zz 4 rfl | exact difs_at h9zz 5 rfl | exact difs_at h9zz 6 rfl | exact difs_at h9zz 7 rfl | exact difs_at h9zz 8 rfl | exact difs_at h9zz 9 rfl | exact difs_at h9zz 10 rfl | exact difs_at h9zz 11 rfl | exact difs_at h9zz 12 rfl | exact difs_at h9zz 13 rfl | exact difs_at h9zz 14 rfl | exact difs_at h9zz 15 rfl | exact difs_at h9zz 16 rfl | exact difs_at h9zz 17 rfl | exact difs_at h9zz 18 rfl | exact difs_at h9zz 19 rfl | exact difs_at h9zz 20 rfl | exact difs_at h9zz 21 rfl | exact difs_at h9zz 22 rfl | exact difs_at h9zz 23 rfl | exact difs_at h9zz 24 rfl | exact difs_at h9zz 25 rfl | exact difs_at h9zz 26 rfl | exact difs_at h9zz 27 rfl | exact difs_at h9zz 28 rfl | exact difs_at h9zz 29 rfl | exact difs_at h9zz 30 rfl | exact difs_at h9zz 31 rfl | exact difs_at h9zz 32 rfl | exact difs_at h9zz 33 rfl | exact difs_at h9zz 34 rfl | exact difs_at h9zz 35 rfl | exact difs_at h9zz 36 rfl | exact difs_at h9zz 37 rfl | exact difs_at h9zz 38 rfl | exact difs_at h9zz 39 rfl) | (refine difs_pick' (by with_reducible assumption) ?_; intro h9zz; first | exact difs_at' h9zz 0 rfl | exact difs_at' h9zz 1 rfl | exact difs_at' h9zz 2 rfl | exact difs_at' h9zz 3 rfl | exact difs_at' h9zz 4 rfl | exact difs_at' h9zz 5 rfl | exact difs_at' h9zz 6 rfl | exact difs_at' h9zz 7 rfl | exact difs_at' h9zz 8 rfl | exact difs_at' h9zz 9 rfl | exact difs_at' h9zz 10 rfl | exact difs_at' h9zz 11 rfl | exact difs_at' h9zz 12 rfl | exact difs_at' h9zz 13 rfl | exact difs_at' h9zz 14 rfl | exact difs_at' h9zz 15 rfl | exact difs_at' h9zz 16 rfl | exact difs_at' h9zz 17 rfl | exact difs_at' h9zz 18 rfl | exact difs_at' h9zz 19 rfl | exact difs_at' h9zz 20 rfl | exact difs_at' h9zz 21 rfl | exact difs_at' h9zz 22 rfl | exact difs_at' h9zz 23 rfl | exact difs_at' h9zz 24 rfl | exact difs_at' h9zz 25 rfl | exact difs_at' h9zz 26 rfl | exact difs_at' h9zz 27 rfl | exact difs_at' h9zz 28 rfl | exact difs_at' h9zz 29 rfl | exact difs_at' h9zz 30 rfl | exact difs_at' h9zz 31 rfl | exact difs_at' h9zz 32 rfl | exact difs_at' h9zz 33 rfl | exact difs_at' h9zz 34 rfl | exact difs_at' h9zz 35 rfl | exact difs_at' h9zz 36 rfl | exact difs_at' h9zz 37 rfl | exact difs_at' h9zz 38 rfl | exact difs_at' h9zz 39 rfl))
  k_with "my ctl" => (first | with_reducible exact ct_all | with_reducible exact ct_left | with_reducible exact ct_right | with_reducible exact ct_nil | with_reducible exact ct_one | ((with_reducible refine ct_keep ?_); k_extra "my ctl") | ((with_reducible refine ct_skip ?_); k_extra "my ctl"))
  k_with "my o3l" => (first | with_reducible exact o3_id | with_reducible exact o3_nil | ((with_reducible refine o3_keep ?_); k_extra "my o3l") | ((with_reducible refine o3_skip ?_); k_extra "my o3l"))
  k_with "my o3" => (first | with_reducible assumption | ((try simp only [List.cons_append, List.nil_append]); refine off3By (by with_reducible assumption) ?_; k_extra "my o3l") | (refine And.intro ⟨by k_ne, by k_ne, by k_ne⟩ ?_; k_extra "my o3"))
  k_with "my okl" => (first | with_reducible exact ok_id | with_reducible exact ok_left | with_reducible exact ok_right | with_reducible exact ok_nil | ((with_reducible refine ok_keep ?_); k_extra "my okl") | ((with_reducible refine ok_skip ?_); k_extra "my okl"))
  k_with "my offtail" => (first | with_reducible exact off_difs (by with_reducible assumption) | exact off_lt (by with_reducible assumption) | exact off_of (by with_reducible assumption) | exact off_all (by with_reducible assumption) | exact off_left (by with_reducible assumption) | exact off_right (by with_reducible assumption) | exact off_lt (all_up (by with_reducible assumption)) | exact off_lt (all_up (all_up (by with_reducible assumption))) | exact off_lt (all_up (all_up (all_up (by with_reducible assumption)))) | exact off_lt (all_up (all_up (all_up (all_up (by with_reducible assumption))))) | exact off_lt (all_up (all_up (all_up (all_up (all_up (by with_reducible assumption)))))) | exact off_lt (all_up (all_up (all_up (all_up (all_up (all_up (by with_reducible assumption))))))) | exact off_lt (And.right (by with_reducible assumption)) | exact And.right (by with_reducible assumption) | exact off_lt (And.right (And.right (by with_reducible assumption))) | exact And.right (And.right (by with_reducible assumption)) | exact off_lt (And.right (And.right (And.right (by with_reducible assumption)))) | exact And.right (And.right (And.right (by with_reducible assumption))) | exact off_lt (And.right (And.right (And.right (And.right (by with_reducible assumption))))) | exact And.right (And.right (And.right (And.right (by with_reducible assumption)))) | exact off_lt (And.right (And.right (And.right (And.right (And.right (by with_reducible assumption)))))) | exact And.right (And.right (And.right (And.right (And.right (by with_reducible assumption))))) | exact off_lt (And.right (And.right (And.right (And.right (And.right (And.right (by with_reducible assumption))))))) | exact And.right (And.right (And.right (And.right (And.right (And.right (by with_reducible assumption)))))) | exact off_lt (And.right (And.right (And.right (And.right (And.right (And.right (And.right (by with_reducible assumption)))))))) | exact And.right (And.right (And.right (And.right (And.right (And.right (And.right (by with_reducible assumption))))))) | exact off_lt (And.right (And.right (And.right (And.right (And.right (And.right (And.right (And.right (by with_reducible assumption))))))))) | exact And.right (And.right (And.right (And.right (And.right (And.right (And.right (And.right (by with_reducible assumption)))))))) | exact off_lt (And.right (And.right (And.right (And.right (And.right (And.right (And.right (And.right (And.right (by with_reducible assumption)))))))))) | exact And.right (And.right (And.right (And.right (And.right (And.right (And.right (And.right (And.right (by with_reducible assumption))))))))) | exact off_lt (And.right (And.right (And.right (And.right (And.right (And.right (And.right (And.right (And.right (And.right (by with_reducible assumption))))))))))) | exact And.right (And.right (And.right (And.right (And.right (And.right (And.right (And.right (And.right (And.right (by with_reducible assumption)))))))))) | exact off_lt (And.right (And.right (And.right (And.right (And.right (And.right (And.right (And.right (And.right (And.right (And.right (by with_reducible assumption)))))))))))) | exact And.right (And.right (And.right (And.right (And.right (And.right (And.right (And.right (And.right (And.right (And.right (by with_reducible assumption))))))))))) | exact off_lt (And.right (And.right (And.right (And.right (And.right (And.right (And.right (And.right (And.right (And.right (And.right (And.right (by with_reducible assumption))))))))))))) | exact And.right (And.right (And.right (And.right (And.right (And.right (And.right (And.right (And.right (And.right (And.right (And.right (by with_reducible assumption)))))))))))) | exact off_lt (And.right (And.right (And.right (And.right (And.right (And.right (And.right (And.right (And.right (And.right (And.right (And.right (And.right (by with_reducible assumption)))))))))))))) | exact And.right (And.right (And.right (And.right (And.right (And.right (And.right (And.right (And.right (And.right (And.right (And.right (And.right (by with_reducible assumption))))))))))))) | exact off_lt (And.right (And.right (And.right (And.right (And.right (And.right (And.right (And.right (And.right (And.right (And.right (And.right (And.right (And.right (by with_reducible assumption))))))))))))))) | exact And.right (And.right (And.right (And.right (And.right (And.right (And.right (And.right (And.right (And.right (And.right (And.right (And.right (And.right (by with_reducible assumption)))))))))))))))
  k_with "my off1" => (first | exact True.intro | with_reducible assumption | exact off_difs (by with_reducible assumption) | (refine offBy (by with_reducible assumption) ?_; k_extra "my okl") | (refine offByC (by with_reducible assumption) ?_; k_extra "my ctl") | (refine And.intro ?_ ?_; (k_extra "my ne"); k_extra "my off1") | k_extra "my offtail")
  k_with "my above" => (first | exact above0 | (simp only [List.nil_append, List.cons_append]; k_extra "my above") | (refine aboveC ?_ ?_; (k_extra "my off1"); (k_extra "my above")))
  k_with "my need" => (first | exact List.forall_mem_nil _ | (refine' List.forall_mem_cons.mpr ⟨(by k_mem), (by k_extra "my need")⟩))
  k_with "my split" => (skip)
  k_with "my @call builtin:list.pop" => ((k_here; k_dflt (refine' pop0 (by k_asm) (by k_asm) (by k_upd) (by first | assumption | (simp only [List.length_cons] at *; omega)) ?_; k_whole); intro h'zz F'zz N'zz; (try dsimp only [List.nil_append, List.cons_append] at N'zz)))
  k_with "my len" => (((try dsimp only); (try simp only [rjust_len, ljust_len, Str.length_append, len_space, len_nil, len_dot]); omega))
  k_with "my @binaryOp Add str str" => ((k_here; (with_reducible show wpAny _ _ (binaryOp Operator.Add (Value.str _ _) (Value.str _ _)) _ _ _); refine add_ (by k_extra "my len") ?_; intro _ _))
  k_with "my strs" => (first | with_reducible assumption | exact StrsAre.nil | (refine' StrsAre.cons _ _ (by k_extra "my strs")))
  k_with "my @call builtin:str.join" => ((k_here; (with_reducible show wpAny _ _ (call (Value.builtin "str.join") [Value.str _ _, Value.ref _]) _ _ _); k_dflt (refine' k_join (by k_asm) (by k_mem) (by (with_unfolding_all k_extra "my strs")) (by k_extra "my each") (by exact Nat.le_of_ble_eq_true rfl) ?_; k_whole; intro _ _)))
  k_with "my tlen" => (first | decide | exact Nat.le_trans (num_len (by omega) (by omega)) (by decide) | k_extra "my len")
  k_with "my each" => (first | assumption | exact List.forall_mem_nil _ | (refine List.forall_mem_cons.mpr ⟨by k_extra "my tlen", ?_⟩; k_extra "my each"))
  k_with "my @compareOp In str str" => ((k_here; refine in_no (by assumption) ?_))
  k_with "my @call builtin:str.isprintable" => ((k_here; refine KXw.isprintable (b := true) (by assumption) ?_))
  k_with "my @WhlIf" => ((refine WhlIf.no (decide_eq_false (by rw [pow18]; omega)) ?_))
  k_with "my @subscriptTail Attribute" => ((k_here; k_dflt (refine kba_turn (value' := PySem.Expr.Name (PySem.Str.ofString "_") ⟨0, 0, 0, 0⟩) (fun _ => rfl) ?_)))
  k_with "my @subscriptTail Subscript" => ((k_here; k_dflt (refine kba_turn (value' := PySem.Expr.Name (PySem.Str.ofString "_") ⟨0, 0, 0, 0⟩) (fun _ => rfl) ?_)))
  k_with "my @execs cons Assign cons" => (first | (k_here; k_gentoks) | ((with_reducible refine wpAny_execs_cons ?_); try dsimp only))
  k_with "my @execs cons" => (first | (k_here; k_gentoks) | ((with_reducible refine wpAny_execs_cons ?_); try dsimp only))
  k_with "my @exec Assign" => ((k_here; (with_reducible show wpAny _ _ (exec (PySem.Stmt.Assign [PySem.Expr.Name _ _] _ _) _) _ _ _); k_dflt (refine wpAny_Assign_Name ?_)))
  k_with "my @exec While" => ((k_here; k_dflt (refine whl_start 100 ?_)))
  k_with "my pull" => (first | exact Pull.head | (refine' Pull.tail (by k_extra "my pull")))
  k_with "my @call ref" => ((k_here; (with_reducible show wpAny _ _ (call (Value.ref 66) _ _) _ _ _); k_dflt (refine' Tell.useQ (by k_asm) (by k_asm) (by k_asm) (by k_asm) (by k_asm) (by first | exact rfl | assumption) (by k_extra "my need") (by exact Nat.le_of_ble_eq_true rfl) (by exact Nat.le_of_ble_eq_true rfl) (whole_ _ _ _ (by omega) (by omega)) ?_; k_whole; intro tkzz h'zz tk'zz F'zz N'zz l1zz; (try simp only [List.nil_append, List.cons_append] at N'zz); clear l1zz; (try dsimp only); (try k_sweep))))
  k_with "my @call ref" => ((k_here; (with_reducible show wpAny _ _ (call (Value.ref 377) _ _) _ _ _); k_dflt (refine' Tell.useQ (by k_asm) (by k_asm) (by k_asm) (by k_asm) (by k_asm) (by first | exact rfl | assumption) (by k_extra "my need") (by exact Nat.le_of_ble_eq_true rfl) (by exact Nat.le_of_ble_eq_true rfl) (padded_ _ _ _ _ _ (by omega) (by omega) (by k_extra "my len")) ?_; k_whole; intro tkzz h'zz tk'zz F'zz N'zz l1zz; (try simp only [List.nil_append, List.cons_append] at N'zz); clear l1zz; (try dsimp only); (try k_sweep))))
  k_with "my @call ref" => ((k_here; (with_reducible show wpAny _ _ (call (Value.ref 243) _ _) _ _ _); k_dflt (refine' Tell.useQ (by k_asm) (by k_asm) (by k_asm) (by k_asm) (by k_asm) (by first | exact rfl | assumption) (by k_extra "my need") (by exact Nat.le_of_ble_eq_true rfl) (by exact Nat.le_of_ble_eq_true rfl) (encode_ _ _ _ (by first | assumption | decide +kernel) (by first | assumption | decide +kernel) (by first | assumption | decide +kernel)) ?_; k_whole; intro tkzz h'zz tk'zz F'zz N'zz l1zz; (try simp only [List.nil_append, List.cons_append] at N'zz); clear l1zz; (try dsimp only); (try k_sweep))))
  k_with "my @call ref" => ((k_here; (with_reducible show wpAny _ _ (call (Value.ref 278) _ _) _ _ _); k_dflt (refine' Tell.useQ (by k_asm) (by k_asm) (by k_asm) (by k_asm) (by k_asm) (by first | exact rfl | assumption) (by k_extra "my need") (by exact Nat.le_of_ble_eq_true rfl) (by exact Nat.le_of_ble_eq_true rfl) (widest2 _ _ _ _ _ _ _ (by k_extra "my len") (by k_extra "my len")) ?_; k_whole; intro tkzz h'zz tk'zz F'zz N'zz l1zz; (try simp only [List.nil_append, List.cons_append] at N'zz); clear l1zz; (try dsimp only); (try k_sweep))))
  k_with "my @call ref" => ((k_here; (with_reducible show wpAny _ _ (call (Value.ref 278) _ _) _ _ _); k_dflt (refine' Tell.useQ (by k_asm) (by k_asm) (by k_asm) (by k_asm) (by k_asm) (by first | exact rfl | assumption) (by k_extra "my need") (by exact Nat.le_of_ble_eq_true rfl) (by exact Nat.le_of_ble_eq_true rfl) (widest1 _ _ _ _ _ (by k_extra "my len")) ?_; k_whole; intro tkzz h'zz tk'zz F'zz N'zz l1zz; (try simp only [List.nil_append, List.cons_append] at N'zz); clear l1zz; (try dsimp only); (try k_sweep))))
  k_with "my @call ref" => ((k_here; (with_reducible show wpAny _ _ (call (Value.ref 199) [_, _, _] _) _ _ _); k_dflt (refine' Tell.useQ (by k_asm) (by k_asm) (by k_asm) (by k_asm) (by k_asm) (by first | exact rfl | assumption) (by k_extra "my need") (by exact Nat.le_of_ble_eq_true rfl) (by exact Nat.le_of_ble_eq_true rfl) (vector3 _ _ _ _) ?_; k_whole; intro xzz dxzz t1zz t2zz t3zz t4zz t5zz hxzz h'zz tk'zz F'zz N'zz l1zz; (try simp only [List.nil_append, List.cons_append] at N'zz); (have l2zz := difs_of (below2 l1zz).1; have l3zz := difs_of (below2 l1zz).2; clear l1zz; (try simp only [List.nil_append, List.cons_append] at l2zz l3zz); skip); (try dsimp only); (try k_sweep))))
  k_with "my @call ref" => ((k_here; (with_reducible show wpAny _ _ (call (Value.ref 199) [_, _] _) _ _ _); k_dflt (refine' Tell.useQ (by k_asm) (by k_asm) (by k_asm) (by k_asm) (by k_asm) (by first | exact rfl | assumption) (by k_extra "my need") (by exact Nat.le_of_ble_eq_true rfl) (by exact Nat.le_of_ble_eq_true rfl) (vector2 _ _ _) ?_; k_whole; intro xzz dxzz t1zz t2zz t3zz t4zz t5zz hxzz h'zz tk'zz F'zz N'zz l1zz; (try simp only [List.nil_append, List.cons_append] at N'zz); (have l2zz := difs_of (below2 l1zz).1; have l3zz := difs_of (below2 l1zz).2; clear l1zz; (try simp only [List.nil_append, List.cons_append] at l2zz l3zz); skip); (try dsimp only); (try k_sweep))))
  k_with "my @call ref" => ((k_here; (with_reducible show wpAny _ _ (call (Value.ref 439) [_, _] _) _ _ _); k_dflt (refine' Tell.use2 (by k_asm) (by k_asm) (by k_asm) (by (refine' pull1 (by k_asm) (by k_extra "my pull"))) (by k_asm) (by first | exact rfl | assumption) (by (refine mt1 ?_; k_all)) (by exact Nat.le_of_ble_eq_true rfl) (by exact Nat.le_of_ble_eq_true rfl) (plum_ _ _ _ _ _ _ _ (by assumption) (by assumption) (by omega) (by omega)) ?_; k_whole; intro tkzz rzz vs'zz ns'zz n'zz hi'zz hl'zz h0zz h1zz h'zz tk'zz F'zz N'zz l1zz; (try simp only [List.nil_append, List.cons_append] at N'zz); clear l1zz; (try dsimp only); (try k_sweep))))
  k_with "my @call ref" => ((k_here; (with_reducible show wpAny _ _ (call (Value.ref 265) _ _) _ _ _); k_dflt (refine' Tell.useQ (by k_asm) (by k_asm) (by k_asm) (by k_asm) (by k_asm) (by first | exact rfl | assumption) (by k_extra "my need") (by exact Nat.le_of_ble_eq_true rfl) (by exact Nat.le_of_ble_eq_true rfl) (fmt_int _ _ _ _ _ (by omega) (by omega)) ?_; k_whole; intro tkzz h'zz tk'zz F'zz N'zz l1zz; (try simp only [List.nil_append, List.cons_append] at N'zz); clear l1zz; (try dsimp only); (try k_sweep))))
  k_with "my @call ref" => ((k_here; (with_reducible show wpAny _ _ (call (Value.ref 265) _ _) _ _ _); k_dflt (refine' Tell.useQ (by k_asm) (by k_asm) (by k_asm) (by k_asm) (by k_asm) (by first | exact rfl | assumption) (by k_extra "my need") (by exact Nat.le_of_ble_eq_true rfl) (by exact Nat.le_of_ble_eq_true rfl) (fmt_str _ _ _ _ _ (by first | assumption | decide +kernel) (by first | assumption | decide +kernel) (by first | assumption | decide +kernel)) ?_; k_whole; intro tkzz h'zz tk'zz F'zz N'zz l1zz; (try simp only [List.nil_append, List.cons_append] at N'zz); clear l1zz; (try dsimp only); (try k_sweep))))
  k_with "my @call ref" => ((k_here; (with_reducible show wpAny _ _ (call (Value.ref 231) _ _) _ _ _); k_dflt (refine' Tell.useQ (by k_asm) (by k_asm) (by k_asm) (by k_asm) (by k_asm) (by first | exact rfl | assumption) (by k_extra "my need") (by exact Nat.le_of_ble_eq_true rfl) (by exact Nat.le_of_ble_eq_true rfl) (grown_ _ _ _ _ _ (by omega) (by omega) (by k_extra "my len")) ?_; k_whole; intro tkzz h'zz tk'zz F'zz N'zz l1zz; (try simp only [List.nil_append, List.cons_append] at N'zz); clear l1zz; (try dsimp only); (try k_sweep))))
  trivial
theorem off_Lp : True := by
  w_top off
  trivial
-- part Lp
def LEnd (h₀ : Heap) (L : Addr) (J : (Str → Option Value) → Led → Prop) (it : Addr × Obj) (s₁ s₂ : Shared) : Prop :=
  ∃ h' tk m' nx, s₂ = { s₁ with heap := h', toks := tk } ∧ Fr h₀ L h' m' ∧ News h₀ L h' (it :: nx) ∧ (∀ q ∈ nx, q.1 ≠ it.1) ∧ J m' nx
def LPost (h₀ : Heap) (L : Addr) (J : (Str → Option Value) → Led → Prop) (it : Addr × Obj) (s₁ : Shared) (Q : Flow → Shared → Prop) (f : Flow) (s₂ : Shared) : Prop :=
  match f with
  | .ret v => Q (.ret v) s₂
  | .brk => Q .next s₂
  | _ => LEnd h₀ L J it s₁ s₂
theorem LEnd.intro {h₀ : Heap} {L : Addr} {J : (Str → Option Value) → Led → Prop} {it : Addr × Obj} {s₁ : Shared} {h' : Heap} {tk : Nat} {m' : Str → Option Value} {all : Led} (nx : Led)
    (F : Fr h₀ L h' m') (N : News h₀ L h' all) (hs : ∀ p ∈ it :: nx, p ∈ all) (ho : ∀ q ∈ nx, q.1 ≠ it.1) (hj : J m' nx) : LEnd h₀ L J it s₁ { s₁ with heap := h', toks := tk } :=
  ⟨h', tk, m', nx, rfl, F, drop_to N hs, ho, hj⟩
section
variable {prog : Program} {w : World} {A : Around} {E : Value → Shared → Prop} {s : Shared} {env : Env} {h₀ : Heap} {x : Str} {body : List Stmt} {Q : Flow → Shared → Prop}
theorem loopL {l : Addr} {vs : List Value} {nn : Nat} {m₀ : Str → Option Value} {news : Led} (J : Nat → (Str → Option Value) → Led → Prop)
    (hh : A.handled = none) (hl : (l, lst vs nn) ∈ news) (F : Fr h₀ env.locals s.heap m₀) (N : News h₀ env.locals s.heap news) (hj : J 0 m₀ news) (hk : ∀ i m nx, J i m nx → (l, lst vs nn) ∈ nx)
    (turn : ∀ i v m₁ nx h tk I oi, vs[i]? = some v → (∀ q ∈ nx, q.1 ≠ I) → J i m₁ nx → Fr h₀ env.locals h (fun y => if y = x then some v else m₁ y) → News h₀ env.locals h ((I, oi) :: nx) →
      wpAny (model prog w) A (execs body env) (LPost h₀ env.locals (J (i + 1)) (I, oi) { s with heap := h, toks := tk } Q) E { s with heap := h, toks := tk })
    (done : ∀ m₁ nx h tk, J vs.length m₁ nx → Fr h₀ env.locals h m₁ → News h₀ env.locals h nx → Q .next { s with heap := h, toks := tk }) :
    wpAny (model prog w) A (pyIter (.ref l)) (fun it s₂ => LoopAtV prog w A h₀ env x body Q E it s₂) E s := by
  have hol : s.heap.get? l = some (lst vs nn) := (N _ hl).1
  have hls : s.heap.IsList l vs.toArray := ⟨_, hol, rfl, nn, rfl⟩
  have hne : l ≠ s.heap.objs.size := Nat.ne_of_lt (Heap.lt_size hol)
  refine wpAny_pyIter_list hls ?_
  have W := Walks.list (prog := prog) (w := w) hh s.heap.objs.size l hne vs.toArray
  have hlen : vs.toArray.size = vs.length := by simp
  rw [hlen] at W
  refine ⟨_, _, _, vs.length, _, _, m₀, news, J, rfl, W, ?_, ?_, ?_, ⟨⟨_, Heap.get?_push_size _ rfl, rfl, rfl⟩, hls.at fun o e => Heap.get?_push_of_some _ e⟩, F.push _, (fun p hp => ⟨Heap.get?_push_of_some _ (N p hp).1, (N p hp).2⟩), hj, ?_, ?_⟩
  · intro hm
    rcases List.mem_cons.mp hm with e | hm
    · exact absurd F.ns.lt (e ▸ Nat.lt_irrefl _)
    · exact (N _ hl).2.1 ((List.mem_singleton.mp hm).symm)
  · intro b hb
    rw [List.mem_singleton.mp hb]
    exact next_is_new F
  · intro p hp hI
    exact absurd (Heap.lt_size (N p hp).1) ((List.mem_singleton.mp hI) ▸ Nat.lt_irrefl _)
  · rintro i v m₁ news₁ s₁ own ⟨hh', tk', rfl⟩ hin hP hJ hoff hown hget hmem hst F₁ N₁
    obtain ⟨⟨oi, hoi, _⟩, _⟩ := hst
    have hI : (s.heap.objs.size, oi) ∈ own := hmem _ (.head _) (next_is_new F) oi hoi
    have hl₁ := hk i m₁ news₁ hJ
    have N₂ : News h₀ env.locals hh' ((s.heap.objs.size, oi) :: news₁) := fun p hp => N₁ p ((List.mem_cons.mp hp).elim (fun h => List.mem_append.mpr (.inl (h ▸ hI))) fun h => List.mem_append.mpr (.inr h))
    have hlo : hh'.get? l = some (lst vs nn) := (N₁ _ (List.mem_append.mpr (.inr hl₁))).1
    refine wpAny_mono (turn i v m₁ news₁ hh' tk' s.heap.objs.size oi (by simpa using hP) (fun q hq e => hoff q hq (List.mem_singleton.mpr e)) hJ F₁ N₂) (fun f s₂ p => ?_) fun _ _ e => e
    have fin : LEnd h₀ env.locals (J (i + 1)) (s.heap.objs.size, oi) { s with heap := hh', toks := tk' } s₂ → LoopStepU h₀ env.locals [s.heap.objs.size] own (J (i + 1)) { s with heap := hh', toks := tk' } .next s₂ := by
      rintro ⟨h', tk, m', nx, e, F', N', ho, hm⟩
      refine ⟨rfl, h', tk, m', nx, e, F', fun p hp => ?_, fun p hp hI' => ho p hp (List.mem_singleton.mp hI'), hm⟩
      rcases List.mem_append.mp hp with h | h
      · rcases List.mem_cons.mp (hown p h) with h2 | h2
        · have h3 : hh'.get? p.1 = some p.2 := hget p h
          rw [h2, hoi] at h3
          have h4 : p = (s.heap.objs.size, oi) := Prod.ext h2 (Option.some.inj h3).symm
          rw [h4]
          exact N' _ (.head _)
        · have h1 := List.mem_singleton.mp h2
          have h3 : hh'.get? p.1 = some p.2 := hget p h
          rw [h1, hlo] at h3
          have h4 : p = (l, lst vs nn) := Prod.ext h1 (Option.some.inj h3).symm
          rw [h4]
          exact N' _ (.tail _ (hk _ _ _ hm))
      · exact N' p (.tail _ h)
    cases f with
    | ret v => exact .ret p
    | brk => exact .brk p
    | next => exact .next (fin p)
    | cont => exact .cont (fin p)
  · rintro h' tk m' news' F' N' _ hJ
    exact done m' news' h' tk hJ F' N'

theorem loopR {r : Addr} {a₀ b₀ : Int} {t₀ u₀ v₀ : Tok} {n : Nat} {m₀ : Str → Option Value} {news : Led} (J : Nat → (Str → Option Value) → Led → Prop)
    (hh : A.handled = none) (hr : IsRange s.heap r a₀ b₀ 1 t₀ u₀ v₀) (hsmall : Builtin.Range.small a₀ b₀ 1 = true) (hn : Builtin.Range.rangeSize a₀ b₀ 1 = (n : Int)) (F : Fr h₀ env.locals s.heap m₀) (N : News h₀ env.locals s.heap news) (hj : J 0 m₀ news)
    (turn : ∀ i t m₁ nx h tk I oi, i < n → (∀ q ∈ nx, q.1 ≠ I) → J i m₁ nx → Fr h₀ env.locals h (fun y => if y = x then some (.int (a₀ + (i : Int)) t) else m₁ y) → News h₀ env.locals h ((I, oi) :: nx) →
      wpAny (model prog w) A (execs body env) (LPost h₀ env.locals (J (i + 1)) (I, oi) { s with heap := h, toks := tk } Q) E { s with heap := h, toks := tk })
    (done : ∀ m₁ nx h tk, J n m₁ nx → Fr h₀ env.locals h m₁ → News h₀ env.locals h nx → Q .next { s with heap := h, toks := tk }) :
    wpAny (model prog w) A (pyIter (.ref r)) (fun it s₂ => LoopAtV prog w A h₀ env x body Q E it s₂) E s := by
  refine wpAny_pyIter_range hr hsmall ?_
  have W : Walks prog w A s.heap.objs.size [s.heap.objs.size] [s.heap.objs.size] n (fun i v => i < n ∧ ∃ t, v = .int (a₀ + i * 1) t)
      (fun i h => IsRangeIter h s.heap.objs.size (a₀ + (i : Nat) * 1) ((n : Int) - (i : Nat)) 1) := (Walks.range hh _ a₀ 1 n).bound
  refine ⟨_, _, _, n, _, _, m₀, news, J, rfl, W, ?_, ?_, ?_, (by show IsRangeIter _ _ _ _ _; rw [hn]; simpa using Heap.get?_push_size _ rfl), F.push _, (fun p hp => ⟨Heap.get?_push_of_some _ (N p hp).1, (N p hp).2⟩), hj, ?_, ?_⟩
  · intro hm
    exact absurd F.ns.lt ((List.mem_singleton.mp hm) ▸ Nat.lt_irrefl _)
  · intro b hb
    rw [List.mem_singleton.mp hb]
    exact next_is_new F
  · intro p hp hI
    exact absurd (Heap.lt_size (N p hp).1) ((List.mem_singleton.mp hI) ▸ Nat.lt_irrefl _)
  · rintro i v m₁ news₁ s₁ own ⟨hh', tk', rfl⟩ hin ⟨_, t, rfl⟩ hJ hoff hown hget hmem hst F₁ N₁
    obtain ⟨oi, hoi⟩ : ∃ oi, hh'.get? s.heap.objs.size = some oi := ⟨_, hst⟩
    have hI : (s.heap.objs.size, oi) ∈ own := hmem _ (.head _) (next_is_new F) oi hoi
    have e1 : a₀ + (i : Int) * 1 = a₀ + (i : Int) := by omega
    rw [e1] at F₁
    refine wpAny_mono (turn i t m₁ news₁ hh' tk' s.heap.objs.size oi hin (fun q hq e => hoff q hq (List.mem_singleton.mpr e)) hJ F₁
      (fun p hp => N₁ p ((List.mem_cons.mp hp).elim (fun h => List.mem_append.mpr (.inl (h ▸ hI))) fun h => List.mem_append.mpr (.inr h)))) (fun f s₂ p => ?_) fun _ _ e => e
    have fin : LEnd h₀ env.locals (J (i + 1)) (s.heap.objs.size, oi) { s with heap := hh', toks := tk' } s₂ → LoopStepU h₀ env.locals [s.heap.objs.size] own (J (i + 1)) { s with heap := hh', toks := tk' } .next s₂ := by
      rintro ⟨h', tk, m', nx, e, F', N', ho, hm⟩
      refine ⟨rfl, h', tk, m', nx, e, F', fun p hp => ?_, fun p hp hI' => ho p hp (List.mem_singleton.mp hI'), hm⟩
      rcases List.mem_append.mp hp with h | h
      · have h2 := List.mem_singleton.mp (hown p h)
        have h3 : hh'.get? p.1 = some p.2 := hget p h
        rw [h2, hoi] at h3
        have h4 : p = (s.heap.objs.size, oi) := Prod.ext h2 (Option.some.inj h3).symm
        rw [h4]
        exact N' _ (.head _)
      · exact N' p (.tail _ h)
    cases f with
    | ret v => exact .ret p
    | brk => exact .brk p
    | next => exact .next (fin p)
    | cont => exact .cont (fin p)
  · rintro h' tk m' news' F' N' _ hJ
    exact done m' news' h' tk hJ F' N'
end
def KS {σ : Type} (Ld : σ → Led) (ps : σ → List (Str × Value)) (x : Str) (stored : List Str) (m₀ : Str → Option Value) (P : Nat → σ → Prop) (i : Nat) (m : Str → Option Value) (nx : Led) : Prop :=
  ∃ c : σ, nx = Ld c ∧ (∀ p ∈ ps c, m p.1 = some p.2) ∧ (∀ z, z ≠ x → (∀ p ∈ ps c, z ≠ p.1) → stored.contains z = false → m z = m₀ z) ∧ P i c
theorem ks_end {σ : Type} {Ld : σ → Led} {ps : σ → List (Str × Value)} {x : Str} {stored : List Str} {m₀ : Str → Option Value} {P : Nat → σ → Prop} {i : Nat} {it : Addr × Obj} {h₀ : Heap} {L : Addr} {s₁ : Shared} {h' : Heap} {tk : Nat} {m' : Str → Option Value} {all : Led} (c : σ)
    (F : Fr h₀ L h' m') (N : News h₀ L h' all) (hs : ∀ p ∈ it :: Ld c, p ∈ all) (ho : ∀ q ∈ Ld c, q.1 ≠ it.1) (hk : ∀ p ∈ ps c, m' p.1 = some p.2) (hr : ∀ z, z ≠ x → (∀ p ∈ ps c, z ≠ p.1) → stored.contains z = false → m' z = m₀ z) (hp : P i c) :
    LEnd h₀ L (KS Ld ps x stored m₀ P i) it s₁ { s₁ with heap := h', toks := tk } := LEnd.intro (Ld c) F N hs ho ⟨c, rfl, hk, hr, hp⟩
section
variable {prog : Program} {w : World} {A : Around} {E : Value → Shared → Prop} {s : Shared} {env : Env} {h₀ : Heap} {x : Str} {body : List Stmt} {Q : Flow → Shared → Prop}
theorem ksL {σ : Type} {l : Addr} {vs : List Value} {nn : Nat} {m₀ : Str → Option Value} (Ld : σ → Led) (ps : σ → List (Str × Value)) (stored : List Str) (P : Nat → σ → Prop) (c₀ : σ)
    (hh : A.handled = none) (hl : ∀ c, (l, lst vs nn) ∈ Ld c) (F : Fr h₀ env.locals s.heap m₀) (N : News h₀ env.locals s.heap (Ld c₀)) (hk : ∀ p ∈ ps c₀, m₀ p.1 = some p.2) (hp : P 0 c₀)
    (turn : ∀ i v c (u : Str → Option Value) h tk I oi, vs[i]? = some v → (∀ q ∈ Ld c, q.1 ≠ I) → P i c → Fr h₀ env.locals h (fun y => if y = x then some v else kstB (fun z => if stored.contains z then u z else m₀ z) (ps c) y) → News h₀ env.locals h ((I, oi) :: Ld c) →
      wpAny (model prog w) A (execs body env) (LPost h₀ env.locals (KS Ld ps x stored m₀ P (i + 1)) (I, oi) { s with heap := h, toks := tk } Q) E { s with heap := h, toks := tk })
    (done : ∀ c (u : Str → Option Value) h tk, P vs.length c → Fr h₀ env.locals h (fun y => if y = x then u y else kstB (fun z => if stored.contains z then u z else m₀ z) (ps c) y) → News h₀ env.locals h (Ld c) → Q .next { s with heap := h, toks := tk }) :
    wpAny (model prog w) A (pyIter (.ref l)) (fun it s₂ => LoopAtV prog w A h₀ env x body Q E it s₂) E s := by
  refine loopL (KS Ld ps x stored m₀ P) hh (hl c₀) F N ⟨c₀, rfl, hk, fun _ _ _ _ => rfl, hp⟩ ?_ ?_ ?_
  · rintro i m nx ⟨c, rfl, _⟩
    exact hl c
  · rintro i v m₁ nx h tk I oi hv ho ⟨c, rfl, h1, h2, hp'⟩ F₁ N₁
    exact turn i v c m₁ h tk I oi hv ho hp' (kst_fr h1 h2 F₁) N₁
  · rintro m₁ nx h tk ⟨c, rfl, h1, h2, hp'⟩ F₁ N₁
    exact done c m₁ h tk hp' (kst_frOut h1 h2 F₁) N₁
theorem ksR {σ : Type} {r : Addr} {a₀ b₀ : Int} {t₀ u₀ v₀ : Tok} {m₀ : Str → Option Value} (n : Nat) (Ld : σ → Led) (ps : σ → List (Str × Value)) (stored : List Str) (P : Nat → σ → Prop) (c₀ : σ)
    (hh : A.handled = none) (hr : IsRange s.heap r a₀ b₀ 1 t₀ u₀ v₀) (hsmall : Builtin.Range.small a₀ b₀ 1 = true) (hn : Builtin.Range.rangeSize a₀ b₀ 1 = (n : Int)) (F : Fr h₀ env.locals s.heap m₀) (N : News h₀ env.locals s.heap (Ld c₀)) (hk : ∀ p ∈ ps c₀, m₀ p.1 = some p.2) (hp : P 0 c₀)
    (turn : ∀ i t c (u : Str → Option Value) h tk I oi, i < n → (∀ q ∈ Ld c, q.1 ≠ I) → P i c → Fr h₀ env.locals h (fun y => if y = x then some (.int (a₀ + (i : Int)) t) else kstB (fun z => if stored.contains z then u z else m₀ z) (ps c) y) → News h₀ env.locals h ((I, oi) :: Ld c) →
      wpAny (model prog w) A (execs body env) (LPost h₀ env.locals (KS Ld ps x stored m₀ P (i + 1)) (I, oi) { s with heap := h, toks := tk } Q) E { s with heap := h, toks := tk })
    (done : ∀ c (u : Str → Option Value) h tk, P n c → Fr h₀ env.locals h (fun y => if y = x then u y else kstB (fun z => if stored.contains z then u z else m₀ z) (ps c) y) → News h₀ env.locals h (Ld c) → Q .next { s with heap := h, toks := tk }) :
    wpAny (model prog w) A (pyIter (.ref r)) (fun it s₂ => LoopAtV prog w A h₀ env x body Q E it s₂) E s := by
  refine loopR (KS Ld ps x stored m₀ P) hh hr hsmall hn F N ⟨c₀, rfl, hk, fun _ _ _ _ => rfl, hp⟩ ?_ ?_
  · rintro i t m₁ nx h tk I oi hv ho ⟨c, rfl, h1, h2, hp'⟩ F₁ N₁
    exact turn i t c m₁ h tk I oi hv ho hp' (kst_fr h1 h2 F₁) N₁
  · rintro m₁ nx h tk ⟨c, rfl, h1, h2, hp'⟩ F₁ N₁
    exact done c m₁ h tk hp' (kst_frOut h1 h2 F₁) N₁
end
section
variable {prog : Program} {w : World} {A : Around} {E : Value → Shared → Prop} {s : Shared} {env : Env} {h₀ : Heap} {x : Str} {body : List Stmt} {Q : Flow → Shared → Prop}
theorem ksLc {σ : Type} {l : Addr} {vs : List Value} {nn : Nat} {m₀ : Str → Option Value} {news : Led} (ps : σ → List (Str × Value)) (stored : List Str) (P : Nat → σ → Prop) (c₀ : σ)
    (hh : A.handled = none) (hl : (l, lst vs nn) ∈ news) (F : Fr h₀ env.locals s.heap m₀) (N : News h₀ env.locals s.heap news) (hk : ∀ p ∈ ps c₀, m₀ p.1 = some p.2) (hp : P 0 c₀)
    (turn : ∀ i v c (u : Str → Option Value) h tk I oi, vs[i]? = some v → (∀ q ∈ news, q.1 ≠ I) → P i c → Fr h₀ env.locals h (fun y => if y = x then some v else kstB (fun z => if stored.contains z then u z else m₀ z) (ps c) y) → News h₀ env.locals h ((I, oi) :: news) →
      wpAny (model prog w) A (execs body env) (LPost h₀ env.locals (KS (fun _ => news) ps x stored m₀ P (i + 1)) (I, oi) { s with heap := h, toks := tk } Q) E { s with heap := h, toks := tk })
    (done : ∀ c (u : Str → Option Value) h tk, P vs.length c → Fr h₀ env.locals h (fun y => if y = x then u y else kstB (fun z => if stored.contains z then u z else m₀ z) (ps c) y) → News h₀ env.locals h news → Q .next { s with heap := h, toks := tk }) :
    wpAny (model prog w) A (pyIter (.ref l)) (fun it s₂ => LoopAtV prog w A h₀ env x body Q E it s₂) E s :=
  ksL (fun _ => news) ps stored P c₀ hh (fun _ => hl) F N hk hp turn done
end
section
variable {prog : Program} {w : World} {A : Around} {h₀ : Heap} {L : Addr} {m : Str → Option Value} {env : Env} {elt : Expr} {x : Str} {scope : Scope} {cl : List (Str × Addr)} {s : Shared} {S : Led → Prop} {Pv : Nat → Value → Prop} {Fin : List Value → Led → Prop} {news : Led}
theorem comp_all {n : Nat} (J : Nat → List Value → Led → Prop) (h0 : J 0 [] news)
    (turn : ∀ i ys nw v I oI C oC D m₂ h tk (E' : Value → Shared → Prop), i < n → Pv i v → J i ys nw → LCg.NsObj oC m₂ → m₂ x = some v → Fr h₀ L h m → News h₀ L h ((I, oI) :: (C, oC) :: (D, LCg.lst ys) :: nw) → LCg.Off3 I C D nw → ((@Ne Nat I C) ∧ (@Ne Nat I D) ∧ (@Ne Nat C D)) →
      wpAny (model prog w) A (eval elt (compEnvC scope cl C env)) (LCg.CompEnd h₀ L m { s with heap := h, toks := tk } I oI C oC D (LCg.lst ys) S (fun y nw' => J (i + 1) (ys ++ [y]) nw')) E' { s with heap := h, toks := tk })
    (fin : ∀ ys nw, J n ys nw → Fin ys nw) : LCg.CompRest prog w A h₀ L m env elt x scope cl s S Pv Fin n 0 [] news := by
  have key : ∀ (j i : Nat) (ys : List Value) (nw : Led), i + j = n → J i ys nw → LCg.CompRest prog w A h₀ L m env elt x scope cl s S Pv Fin j i ys nw := by
    intro j
    induction j with
    | zero =>
      intro i ys nw hi hy
      have e : i = n := by omega
      subst e
      exact LCg.CompRest.zero (fin ys nw hy)
    | succ j ih =>
      intro i ys nw hi hy
      refine LCg.CompRest.succ ?_
      intro v I oI C oC D m₂ h tk E' hv hC hx F N off ne
      refine wpAny_mono (turn i ys nw v I oI C oC D m₂ h tk E' (by omega) hv hy hC hx F N off ne) (fun y s₂ hq => ?_) fun _ _ e => e
      obtain ⟨h', tk', nw', e, F', N', off', hS, hr⟩ := hq
      exact ⟨h', tk', nw', e, F', N', off', hS, ih (i + 1) _ _ (by omega) hr⟩
  exact key n 0 [] news (by omega) h0
theorem strs_snoc {y : Str} {t : Tok} : ∀ {vs : List Value} {ys : List Str}, StrsAre vs ys → StrsAre (vs ++ [.str y t]) (ys ++ [y])
  | _, _, .nil => .cons y t .nil
  | _, _, .cons z u r => .cons z u (strs_snoc r)
theorem comp_txt {n : Nat} (ts : List Str) (hn : ts.length = n)
    (turn : ∀ i r ys v I oI C oC D m₂ h tk (E' : Value → Shared → Prop), i < n → ts[i]? = some r → Pv i v → LCg.NsObj oC m₂ → m₂ x = some v → Fr h₀ L h m → News h₀ L h ((I, oI) :: (C, oC) :: (D, LCg.lst ys) :: news) → LCg.Off3 I C D news → ((@Ne Nat I C) ∧ (@Ne Nat I D) ∧ (@Ne Nat C D)) →
      wpAny (model prog w) A (eval elt (compEnvC scope cl C env)) (LCg.CompEnd h₀ L m { s with heap := h, toks := tk } I oI C oC D (LCg.lst ys) S (fun y nw' => nw' = news ∧ ∃ t, y = .str r t)) E' { s with heap := h, toks := tk })
    (fin : ∀ us, StrsAre us ts → Fin us news) : LCg.CompRest prog w A h₀ L m env elt x scope cl s S Pv Fin n 0 [] news := by
  refine comp_all (fun i ys nw => nw = news ∧ StrsAre ys (ts.take i)) ⟨rfl, by simp only [List.take_zero]; exact .nil⟩ ?_ ?_
  · rintro i ys nw v I oI C oC D m₂ h tk E' hi hv ⟨rfl, hy⟩ hC hx F N off ne
    have hr : ts[i]? = some ts[i] := by simp
    refine wpAny_mono (turn i ts[i] ys v I oI C oC D m₂ h tk E' hi hr hv hC hx F N off ne) (fun y s₂ hq => ?_) fun _ _ e => e
    obtain ⟨h', tk', nw', e, F', N', off', hS, rfl, t, rfl⟩ := hq
    refine ⟨h', tk', _, e, F', N', off', hS, rfl, ?_⟩
    rw [List.take_add_one, hr]
    exact strs_snoc hy
  · rintro ys nw ⟨rfl, hy⟩
    rw [List.take_of_length_le (by omega)] at hy
    exact fin ys hy
end
theorem ln_Lp1 : True := by
  k_with "my comp" => ((k_here; k_dflt (refine LCg.ListComp_U (F₀ := by k_asm) (by with_unfolding_all rfl) (by decide) (by rfl) (by decide) (by rfl) ?_)))
  k_with "my o3c" => (((try simp only [List.cons_append, List.nil_append]); refine off3By (by with_reducible assumption) ?_; k_extra "my o3l"))
  k_with "my offs" => (first | exact True.intro | k_extra "my o3c" | (k_whole; refine And.intro ⟨by k_ne, by k_ne, by k_ne⟩ ?_; k_extra "my offs") | assumption)
  trivial
theorem pick_upto {l : List Value} {y : Int} (h : 0 ≤ y) : kms_pick l.toArray.toList none (some y) = l.take y.toNat := by
  unfold kms_pick kms_lo kms_hi
  simp only [if_neg (Int.not_lt.mpr h), List.drop_zero, Nat.sub_zero]
  exact kmk_take_min _ _
theorem pick_run {l : List Value} {x y : Int} (hx : 0 ≤ x) (h : 0 ≤ y) (hl : x.toNat ≤ l.length) : kms_pick l.toArray.toList (some x) (some y) = (l.drop x.toNat).take (min y.toNat l.length - x.toNat) := by
  unfold kms_pick kms_lo kms_hi
  simp only [if_neg (Int.not_lt.mpr h), if_neg (Int.not_lt.mpr hx)]
  rw [Nat.min_eq_left hl]
theorem flat1 {α : Type} (v : α) : ∀ k : Nat, (List.replicate k [v]).flatten = List.replicate k v
  | 0 => rfl
  | k + 1 => by rw [List.replicate_succ, List.flatten_cons, flat1 v k, List.replicate_succ]; rfl
theorem size_of {l : List Value} {k : Nat} (h : l.length ≤ k) (hk : k ≤ 100000) : l.toArray.toList.length ≤ 100000 := Nat.le_trans h hk
theorem ln_Lp2 : True := by
  k_with "my list" => (exact News.isList (by k_asm) (by k_mem))
  k_with "my slice" => ((k_here; (with_reducible show wpAny _ _ (subscriptTail _ (PySem.Expr.Slice _ _ none _) (Value.ref _) (Value.ref _)) _ _ _); k_dflt (refine' kms_slice_lit (by k_asm) (by k_asm) (by k_extra "my list") (by kmk_part) (by kmk_part) (by first | exact pick_upto (by omega) | exact pick_run (by omega) (by omega) (by omega)) ?_ (by with_unfolding_all rfl) (by kmk_pure) (by (rw [List.size_toArray, sizeLine_eq]; omega)); intro D'zz h'zz F'zz N'zz l1zz; (try k_lt l1zz); (try k_sweep))))
  k_with "my len list" => ((k_here; (with_reducible show wpAny _ _ (call (Value.builtin "len") [Value.ref _]) _ _ _); k_dflt (refine' kst_len (by k_asm) (by k_mem) (by rfl) (by omega) ?_; k_whole)))
  k_with "my mul list" => ((k_here; (with_reducible show wpAny _ _ (binaryOp Operator.Mult (Value.ref _) (Value.int _ _)) _ _ _); k_dflt (refine' KMa.mul (by k_asm) (by k_asm) (by k_extra "my list") (by omega) (by omega) (by (simp only [List.length_cons, List.length_nil]; omega)) (by first | exact flat1 _ _ | rfl) ?_; k_whole; intro D'zz h'zz F'zz N'zz l1zz; (try k_lt l1zz); (try k_sweep))))
  k_with "my add list" => ((k_here; (with_reducible show wpAny _ _ (binaryOp _ (Value.ref _) (Value.ref _)) _ _ _); k_dflt (refine' kmk_add_lit (by k_asm) (by k_asm) (by k_extra "my list") (by k_extra "my list") (by rfl) ?_ (by (rw [sizeLine_eq]; (try simp only [List.toList_toArray, List.length_take, List.length_append, List.length_replicate, List.length_cons, List.length_nil]); omega)); intro D'zz h'zz F'zz N'zz l1zz; (try k_lt l1zz); (try k_sweep))))
  k_with "my @LPost" => ((dsimp only [LPost]))
  trivial
-- `∀ p ∈ l1, p ∈ l2` for written lists with a tail
theorem ln_Lp3 : True := by
  k_with "my tailmem" => (first | assumption | exact List.Mem.head _ | (refine List.Mem.tail _ ?_; k_extra "my tailmem") | (refine List.mem_append.mpr (Or.inl ?_); k_extra "my tailmem") | (refine List.mem_append.mpr (Or.inr ?_); k_extra "my tailmem"))
  k_with "my sub" => (first | exact List.forall_mem_nil _ | (refine List.forall_mem_cons.mpr ⟨by k_extra "my tailmem", ?_⟩; k_extra "my sub") | (intro p9zz h9zz; k_extra "my tailmem"))
  k_with "my off" => (first | exact List.forall_mem_nil _ | (refine List.forall_mem_cons.mpr ⟨by first | assumption | omega, ?_⟩; k_extra "my off") | assumption | exact ne_of_all (by assumption))
  k_with "my kept" => (first | exact List.forall_mem_nil _ | (refine List.forall_mem_cons.mpr ⟨by with_unfolding_all rfl, ?_⟩; k_extra "my kept"))
  trivial
theorem same_of {m' m₀ : Str → Option Value} {x : Str} {ps : List (Str × Value)} {stored : List Str} (ks : List Str) (h : ∀ z, ks.contains z = false → m' z = m₀ z) (hk : (ks.all fun k => k == x || ps.any (fun p => k == p.1) || stored.contains k) = true) :
    ∀ z, z ≠ x → (∀ p ∈ ps, z ≠ p.1) → stored.contains z = false → m' z = m₀ z := by
  intro z h1 h2 h3
  refine h z ?_
  cases hc : ks.contains z with
  | false => rfl
  | true =>
    exfalso
    have hz := List.all_eq_true.mp hk z (by simpa using hc)
    simp only [Bool.or_eq_true, beq_iff_eq, List.any_eq_true] at hz
    rcases hz with (hz | ⟨p, hp, hz⟩) | hz
    · exact h1 hz
    · exact h2 p hp hz
    · rw [h3] at hz; cases hz
theorem off_D3 : True := by
  w_top off
  trivial
-- part D3
def Clean (p : Str) : Prop := Txt.isprintable p = true ∧ (Builtin.Str.occurrences p (Str.ofString "\\") 0 p.length 1).isEmpty = true ∧ (Builtin.Str.occurrences p (Str.ofString "\"") 0 p.length 1).isEmpty = true ∧ p.length ≤ 10
theorem ln_D31 : True := by
  k_with "my for" => ((k_here; (rename Fr _ _ _ _ => lF'zz); (with_unfolding_all refine' For_invVF lF'zz (by exact rfl) (by exact rfl) ?_; k_whole)))
  k_with "my @eval ListComp" => ((k_extra "my comp"))
  k_with "my @CompSrc" => ((refine to_held ?_))
  k_with "my @CompEnd" => ((refine to_held ?_))
  k_with "my @pyIter ref" => ((k_of "item" => refine to_held ?_))
  trivial
theorem items_str (w : World) (x dx l : Addr) (a : Value) (vs : List Value) (xs : List Str) (t7 t t1 t2 t3 t4 t5 : Tok) (n : Nat) (hi : StrsAre vs xs) (hc : ∀ p ∈ xs, Clean p) (hl : xs.length ≤ 10) :
  Tell 700 1200 w 271 [.ref x, .int 7 t7, .bool false] [] [(x, instObj 199 dx), (dx, vecD w.params t1 t2 t3 t4 t5 (.str (Str.ofString "character") t) (.ref l) a), (l, lst vs n)] [] (fun R => ∀ b us, StrsAre us xs → R (.ref b) [] [(b, LCg.lst us)]) := by
  unfold Tell
  intro p loose mean mg mb gd cn cs ca ccd cl outer A₀ base h₀ L m news s Q E B F X N T hk hsep hret
  simp only [List.cons_append, List.nil_append] at N
  walk_at "tell enterC"
  try k_fold
  k_steps
  refine of_held ?_
  rename Fr _ _ _ _ => lF
  rename News _ _ _ _ => lN
  refine ksLc (σ := Int × Tok) (fun c => [(Str.ofString "total", .int c.1 c.2)]) [] (fun i c => 0 ≤ c.1 ∧ c.1 ≤ 10 * (i : Int)) (0, _) rfl (by k_dflt k_mem) lF lN (by k_extra "my kept") ⟨Int.le_refl _, by omega⟩ ?_ ?_
  · intro i v c u h tk I oi hv ho hP F1 N1
    obtain ⟨y, ty, rfl, hy⟩ := hi.item i v hv
    have hcy := hc y (List.mem_of_getElem? hy)
    have hlen := hcy.2.2.2
    have hil : i < xs.length := by
      have := List.getElem?_eq_some_iff.mp hy
      exact this.1
    clear lF lN
    try k_fold
    k_steps
    refine ks_end (c.1 + (y.length : Int), _) (by assumption) (by assumption) (by k_extra "my sub") (by assumption) (by k_extra "my kept") ?_ ⟨by omega, by omega⟩
    intro z h1 h2 _
    have h3 := h2 _ (.head _)
    simp [kstB, h1, h3]
  · intro c u h tk hP F1 N1
    clear lF lN
    try k_fold
    k_steps
    refine of_held ?_
    rename Fr _ _ _ _ => lF
    rename News _ _ _ _ => lN
    have hlen : vs.length = xs.length := hi.length
    refine LCg.CompSrc.ledger (by rfl) lF lN (by k_dflt k_mem) (by rw [List.size_toArray, sizeLine_eq]; omega) ?_
    intro g'
    refine comp_txt xs (by rw [List.size_toArray]; exact hlen.symm) ?_ ?_
    · intro i r ys v I oI C oC D m₂ h tk E' hin hr hv hC hx F2 N2 off ne
      have hv' : vs[i]? = some v := by simpa using hv
      obtain ⟨y, ty, rfl, hy⟩ := hi.item i v hv'
      rw [hr] at hy
      cases hy
      have hcy := hc r (List.mem_of_getElem? hr)
      obtain ⟨hcy1, hcy2, hcy3, hcy4⟩ := hcy
      clear lF lN
      simp only [LCg.Off3] at off
      try k_fold
      k_steps
      refine of_held ?_
      exact LCg.CompEnd.intro (by assumption) (by assumption) _ (by k_extra "my sub") (by simp only [LCg.Off3]; exact off) (Or.inr ⟨_, by k_dflt k_mem, rfl, _, rfl⟩) ⟨rfl, _, rfl⟩
    · intro us hus
      try k_fold
      k_steps
      exact hret _ _ hus _ _ (by assumption) (drop_to (by assumption) (by k_extra "my sub")) (by k_extra "my above")
theorem items_int (w : World) (x dx l : Addr) (a : Value) (vs : List Value) (ns : List Int) (t7 t t1 t2 t3 t4 t5 : Tok) (n : Nat) (hi : IntsAre vs ns) (h0 : ∀ k ∈ ns, -100 ≤ k) (h1 : ∀ k ∈ ns, k ≤ 200) (hl : ns.length ≤ 10) :
  Tell 700 1200 w 271 [.ref x, .int 7 t7, .bool false] [] [(x, instObj 199 dx), (dx, vecD w.params t1 t2 t3 t4 t5 (.str (Str.ofString "integer") t) (.ref l) a), (l, lst vs n)] [] (fun R => ∀ b us, StrsAre us (ns.map fun k => Str.ofString (toString k)) → R (.ref b) [] [(b, LCg.lst us)]) := by
  unfold Tell
  intro p loose mean mg mb gd cn cs ca ccd cl outer A₀ base h₀ L m news s Q E B F X N T hk hsep hret
  simp only [List.cons_append, List.nil_append] at N
  walk_at "tell enterC"
  try k_fold
  k_steps
  refine of_held ?_
  rename Fr _ _ _ _ => lF
  rename News _ _ _ _ => lN
  have hlen : vs.length = ns.length := hi.length
  refine LCg.CompSrc.ledger (by rfl) lF lN (by k_dflt k_mem) (by rw [List.size_toArray, sizeLine_eq]; omega) ?_
  intro g'
  refine comp_txt (ns.map fun k => Str.ofString (toString k)) (by rw [List.size_toArray, List.length_map]; exact hlen.symm) ?_ ?_
  · intro i r ys v I oI C oC D m₂ h tk E' hin hr hv hC hx F2 N2 off ne
    have hv' : vs[i]? = some v := by simpa using hv
    obtain ⟨y, ty, rfl, hy⟩ := IntsAre.at hi i v hv'
    rw [List.getElem?_map, hy] at hr
    cases hr
    have hb0 := h0 y (List.mem_of_getElem? hy)
    have hb1 := h1 y (List.mem_of_getElem? hy)
    clear lF lN
    simp only [LCg.Off3] at off
    try k_fold
    k_steps
    refine of_held ?_
    exact LCg.CompEnd.intro (by assumption) (by assumption) _ (by k_extra "my sub") (by simp only [LCg.Off3]; exact off) (Or.inr ⟨_, by k_dflt k_mem, rfl, _, rfl⟩) ⟨rfl, _, rfl⟩
  · intro us hus
    try k_fold
    k_steps
    exact hret _ _ hus _ _ (by assumption) (drop_to (by assumption) (by k_extra "my sub")) (by k_extra "my above")
theorem ln_D32 : True := by
  k_with "my @call ref" => ((k_here; (with_reducible show wpAny _ _ (call (Value.ref 271) _ _) _ _ _); k_dflt (refine' Tell.useQ (by k_asm) (by k_asm) (by k_asm) (by k_asm) (by k_asm) (by first | exact rfl | assumption) (by k_extra "my need") (by exact Nat.le_of_ble_eq_true rfl) (by exact Nat.le_of_ble_eq_true rfl) (items_str _ _ _ _ _ _ _ _ _ _ _ _ _ _ _ (by assumption) (by assumption) (by first | assumption | omega)) ?_; k_whole; intro bzz uszz huszz h'zz tk'zz F'zz N'zz l1zz; (try simp only [List.nil_append, List.cons_append] at N'zz); (have l2zz := difs_of (below1 l1zz); clear l1zz; (try simp only [List.nil_append, List.cons_append] at l2zz)); (try dsimp only); (try k_sweep))))
  k_with "my @call ref" => ((k_here; (with_reducible show wpAny _ _ (call (Value.ref 271) _ _) _ _ _); k_dflt (refine' Tell.useQ (by k_asm) (by k_asm) (by k_asm) (by k_asm) (by k_asm) (by first | exact rfl | assumption) (by k_extra "my need") (by exact Nat.le_of_ble_eq_true rfl) (by exact Nat.le_of_ble_eq_true rfl) (items_int _ _ _ _ _ _ _ _ _ _ _ _ _ _ _ (by assumption) (by assumption) (by assumption) (by first | assumption | omega)) ?_; k_whole; intro bzz uszz huszz h'zz tk'zz F'zz N'zz l1zz; (try simp only [List.nil_append, List.cons_append] at N'zz); (have l2zz := difs_of (below1 l1zz); clear l1zz; (try simp only [List.nil_append, List.cons_append] at l2zz)); (try dsimp only); (try k_sweep))))
  trivial
theorem off_D4 : True := by
  w_top off
  trivial
-- part D4
theorem ln_D41 : True := by
  k_with "my @subscriptTail Name Slice ref ref" => ((k_extra "my slice"))
  k_with "my @call builtin:len" => ((k_extra "my len list"))
  k_with "my @binaryOp Mult ref int" => ((k_extra "my mul list"))
  k_with "my @binaryOp Add ref ref" => ((k_extra "my add list"))
  trivial
theorem strs_rep (y : Str) (t : Tok) : ∀ k : Nat, StrsAre (List.replicate k (.str y t)) (List.replicate k y)
  | 0 => .nil
  | k + 1 => by rw [List.replicate_succ, List.replicate_succ]; exact .cons y t (strs_rep y t k)
theorem filled_strs {us : List Value} {xs : List Str} {a k k' : Nat} {y : Str} {t : Tok} (hi : StrsAre us xs) (e : k = k') : StrsAre (us.take a ++ List.replicate k (.str y t)) (xs.take a ++ List.replicate k' y) := by
  subst e
  exact (hi.take' _).append' (strs_rep _ _ _)
theorem filled_int (w : World) (x dx l : Addr) (its : Value) (us : List Value) (xs : List Str) (tr t t1 t2 t3 t4 t5 : Tok) (n : Nat) (r : Int) (hr : r = 1 ∨ r = 2) (hi : StrsAre us xs) (hl : xs.length ≤ 10) :
  Tell 700 1200 w 412 [.ref x, .ref l, .int r tr] [] [(x, instObj 199 dx), (dx, vecD w.params t1 t2 t3 t4 t5 (.str (Str.ofString "integer") t) its .none), (l, lst us n)] [] (fun R => ∀ b us' n', StrsAre us' (xs.take r.toNat ++ List.replicate (r.toNat - xs.length) (Str.ofString "NA")) → R (.ref b) [] [(b, lst us' n')]) := by
  unfold Tell
  intro p loose mean mg mb gd cn cs ca ccd cl outer A₀ base h₀ L m news s Q E B F X N T hk hsep hret
  simp only [List.cons_append, List.nil_append] at N
  walk_at "tell enter"
  have hlen := hi.length
  try k_fold
  k_steps
  refine' hret _ _ _ (filled_strs hi ?ee) _ _ ?FF (drop_to ?NN ?SS) ?AA
  case FF => assumption
  case NN => assumption
  case SS => k_extra "my sub"
  case AA => k_extra "my above"
  case ee => omega
theorem filled_str (w : World) (x dx l : Addr) (its : Value) (us : List Value) (xs : List Str) (tr t t1 t2 t3 t4 t5 : Tok) (n : Nat) (r : Int) (hr : r = 1 ∨ r = 2) (hi : StrsAre us xs) (hl : xs.length ≤ 10) :
  Tell 700 1200 w 412 [.ref x, .ref l, .int r tr] [] [(x, instObj 199 dx), (dx, vecD w.params t1 t2 t3 t4 t5 (.str (Str.ofString "character") t) its .none), (l, lst us n)] [] (fun R => ∀ b us' n', StrsAre us' (xs.take r.toNat ++ List.replicate (r.toNat - xs.length) (Str.ofString "<NA>")) → R (.ref b) [] [(b, lst us' n')]) := by
  unfold Tell
  intro p loose mean mg mb gd cn cs ca ccd cl outer A₀ base h₀ L m news s Q E B F X N T hk hsep hret
  simp only [List.cons_append, List.nil_append] at N
  walk_at "tell enter"
  have hlen := hi.length
  try k_fold
  k_steps
  refine' hret _ _ _ (filled_strs hi ?ee) _ _ ?FF (drop_to ?NN ?SS) ?AA
  case FF => assumption
  case NN => assumption
  case SS => k_extra "my sub"
  case AA => k_extra "my above"
  case ee => omega
def PieceIn (g : Led) (v : Value) (pc : Str × List Str) : Prop :=
  ∃ p l t us n n2, v = .ref p ∧ (p, tup [.str pc.1 t, .ref l] n2) ∈ g ∧ (l, lst us n) ∈ g ∧ StrsAre us pc.2
inductive PiecesIn (g : Led) : List Value → List (Str × List Str) → Prop
  | nil : PiecesIn g [] []
  | cons {v : Value} {pc : Str × List Str} {vs : List Value} {pcs : List (Str × List Str)} : PieceIn g v pc → PiecesIn g vs pcs → PiecesIn g (v :: vs) (pc :: pcs)
theorem PieceIn.mono {g g' : Led} {v : Value} {pc : Str × List Str} (h : PieceIn g v pc) (hs : ∀ p ∈ g, p ∈ g') : PieceIn g' v pc := by
  obtain ⟨p, l, t, us, n, n2, e, h1, h2, h3⟩ := h
  exact ⟨p, l, t, us, n, n2, e, hs _ h1, hs _ h2, h3⟩
theorem PiecesIn.mono {g g' : Led} {vs : List Value} {pcs : List (Str × List Str)} (h : PiecesIn g vs pcs) (hs : ∀ p ∈ g, p ∈ g') : PiecesIn g' vs pcs := by
  induction h with
  | nil => exact .nil
  | cons h _ ih => exact .cons (h.mono hs) ih
theorem PiecesIn.append {g : Led} {vs vs' : List Value} {pcs pcs' : List (Str × List Str)} (h : PiecesIn g vs pcs) (h' : PiecesIn g vs' pcs') : PiecesIn g (vs ++ vs') (pcs ++ pcs') := by
  induction h with
  | nil => exact h'
  | cons h _ ih => exact .cons h ih
theorem PiecesIn.length {g : Led} {vs : List Value} {pcs : List (Str × List Str)} (h : PiecesIn g vs pcs) : vs.length = pcs.length := by
  induction h with
  | nil => rfl
  | cons _ _ ih => simp only [List.length_cons, ih]
theorem ln_D42 : True := by
  k_with "my @call ref" => ((k_here; (with_reducible show wpAny _ _ (call (Value.ref 412) _ _) _ _ _); k_dflt (refine' Tell.useQ (by k_asm) (by k_asm) (by k_asm) (by k_asm) (by k_asm) (by first | exact rfl | assumption) (by k_extra "my need") (by exact Nat.le_of_ble_eq_true rfl) (by exact Nat.le_of_ble_eq_true rfl) (filled_int _ _ _ _ _ _ _ _ _ _ _ _ _ _ _ _ (by first | assumption | omega) (by assumption) (by first | assumption | ((try simp only [List.length_map]); omega))) ?_; k_whole; intro bzz us'zz n'zz huszz h'zz tk'zz F'zz N'zz l1zz; (try simp only [List.nil_append, List.cons_append] at N'zz); (have l2zz := difs_of (below1 l1zz); clear l1zz; (try simp only [List.nil_append, List.cons_append] at l2zz)); (try dsimp only); (try k_sweep))))
  k_with "my @call ref" => ((k_here; (with_reducible show wpAny _ _ (call (Value.ref 412) _ _) _ _ _); k_dflt (refine' Tell.useQ (by k_asm) (by k_asm) (by k_asm) (by k_asm) (by k_asm) (by first | exact rfl | assumption) (by k_extra "my need") (by exact Nat.le_of_ble_eq_true rfl) (by exact Nat.le_of_ble_eq_true rfl) (filled_str _ _ _ _ _ _ _ _ _ _ _ _ _ _ _ _ (by first | assumption | omega) (by assumption) (by first | assumption | ((try simp only [List.length_map]); omega))) ?_; k_whole; intro bzz us'zz n'zz huszz h'zz tk'zz F'zz N'zz l1zz; (try simp only [List.nil_append, List.cons_append] at N'zz); (have l2zz := difs_of (below1 l1zz); clear l1zz; (try simp only [List.nil_append, List.cons_append] at l2zz)); (try dsimp only); (try k_sweep))))
  trivial
theorem off_X6 : True := by
  w_top off
  trivial
-- part X6
theorem fc_int (w : World) (x dx l : Addr) (vs : List Value) (ns : List Int) (name : Str) (tn tr t t7 t1 t2 t3 t4 t5 : Tok) (n : Nat) (r : Int) (hr : r = 1 ∨ r = 2) (hi : IntsAre vs ns) (h0 : ∀ k ∈ ns, -100 ≤ k) (h1 : ∀ k ∈ ns, k ≤ 200) (hl : ns.length ≤ 10) :
  Tell 600 900 w 405 [.ref x, .str name tn, .int 7 t7, .int r tr] [] [(x, instObj 199 dx), (dx, vecD w.params t1 t2 t3 t4 t5 (.str (Str.ofString "integer") t) (.ref l) .none), (l, lst vs n)] []
    (fun R => ∀ b pvs n' g, PiecesIn g pvs [(name, ((ns.map fun k => Str.ofString (toString k)).take r.toNat ++ List.replicate (r.toNat - ns.length) (Str.ofString "NA")))] → LCg.Off1 b g → R (.ref b) [] ((b, lst pvs n') :: g)) := by
  unfold Tell
  intro p loose mean mg mb gd cn cs ca ccd cl outer A₀ base h₀ L m news s Q E B F X N T hk hsep hret
  simp only [List.cons_append, List.nil_append] at N
  walk_at "tell enter"
  have hlen := hi.length
  have hln : (ns.map fun k => Str.ofString (toString k)).length ≤ 10 := by simpa using hl
  try k_fold
  k_steps
  refine' hret _ [.ref _] _ [(_, tup [.str name _, .ref _] _), (_, lst _ _)] (.cons ⟨_, _, _, _, _, _, rfl, .head _, .tail _ (.head _), ?hp⟩ .nil) ?ho _ _ ?FF (drop_to ?NN ?SS) ?AA
  case FF => assumption
  case NN => assumption
  case SS => k_extra "my sub"
  case hp => (simp only [List.length_map] at *; assumption)
  case ho => k_extra "my off1"
  case AA => k_extra "my above"
theorem fc_str (w : World) (x dx l : Addr) (vs : List Value) (xs : List Str) (name : Str) (tn tr t t7 t1 t2 t3 t4 t5 : Tok) (n : Nat) (r : Int) (hr : r = 1 ∨ r = 2) (hi : StrsAre vs xs) (hc : ∀ p ∈ xs, Clean p) (hl : xs.length ≤ 10) :
  Tell 600 900 w 405 [.ref x, .str name tn, .int 7 t7, .int r tr] [] [(x, instObj 199 dx), (dx, vecD w.params t1 t2 t3 t4 t5 (.str (Str.ofString "character") t) (.ref l) .none), (l, lst vs n)] []
    (fun R => ∀ b pvs n' g, PiecesIn g pvs [(name, (xs.take r.toNat ++ List.replicate (r.toNat - xs.length) (Str.ofString "<NA>")))] → LCg.Off1 b g → R (.ref b) [] ((b, lst pvs n') :: g)) := by
  unfold Tell
  intro p loose mean mg mb gd cn cs ca ccd cl outer A₀ base h₀ L m news s Q E B F X N T hk hsep hret
  simp only [List.cons_append, List.nil_append] at N
  walk_at "tell enter"
  have hlen := hi.length
  try k_fold
  k_steps
  refine' hret _ [.ref _] _ [(_, tup [.str name _, .ref _] _), (_, lst _ _)] (.cons ⟨_, _, _, _, _, _, rfl, .head _, .tail _ (.head _), ?hp⟩ .nil) ?ho _ _ ?FF (drop_to ?NN ?SS) ?AA
  case FF => assumption
  case NN => assumption
  case SS => k_extra "my sub"
  case hp => assumption
  case ho => k_extra "my off1"
  case AA => k_extra "my above"
theorem off_Lg : True := by
  w_top off
  trivial
-- part Lg
/-- a list of the call's (fo) grows over a range, and objects (g) are made that stay -/
def GrowEnd (h₀ : Heap) (L : Addr) (x : Str) (stored : List Str) (m₀ : Str → Option Value) (fo : Addr) (ex news : Led) (P : Nat → List Value → Led → Prop) (i : Nat) (it : Addr × Obj) (s₁ s₂ : Shared) : Prop :=
  ∃ h' tk m' pvs k g, s₂ = { s₁ with heap := h', toks := tk } ∧ Fr h₀ L h' m' ∧ News h₀ L h' (it :: (fo, lst pvs k) :: (ex ++ (g ++ news))) ∧ LCg.Off1 it.1 g ∧ LCg.Off1 fo g ∧ (∀ q ∈ g, LCg.Off1 q.1 news) ∧ (∀ z, z ≠ x → stored.contains z = false → m' z = m₀ z) ∧ P i pvs g
def GrowPost (h₀ : Heap) (L : Addr) (x : Str) (stored : List Str) (m₀ : Str → Option Value) (fo : Addr) (ex news : Led) (P : Nat → List Value → Led → Prop) (i : Nat) (it : Addr × Obj) (s₁ : Shared) (Q : Flow → Shared → Prop) (f : Flow) (s₂ : Shared) : Prop :=
  match f with
  | .ret v => Q (.ret v) s₂
  | .brk => Q .next s₂
  | _ => GrowEnd h₀ L x stored m₀ fo ex news P i it s₁ s₂
section
variable {prog : Program} {w : World} {A : Around} {E : Value → Shared → Prop} {s : Shared} {env : Env} {h₀ : Heap} {x : Str} {body : List Stmt} {Q : Flow → Shared → Prop}
theorem growR {r : Addr} {a₀ b₀ : Int} {t₀ u₀ v₀ : Tok} {m₀ : Str → Option Value} {fo : Addr} {pv0 : List Value} {k0 : Nat} (n : Nat) (ex news : Led) (stored : List Str) (P : Nat → List Value → Led → Prop)
    (hh : A.handled = none) (hr : IsRange s.heap r a₀ b₀ 1 t₀ u₀ v₀) (hsmall : Builtin.Range.small a₀ b₀ 1 = true) (hn : Builtin.Range.rangeSize a₀ b₀ 1 = (n : Int)) (F : Fr h₀ env.locals s.heap m₀) (N : News h₀ env.locals s.heap ((fo, lst pv0 k0) :: (ex ++ news))) (hfo : LCg.Off1 fo news) (h0 : P 0 pv0 [])
    (turn : ∀ i t pvs k g (u : Str → Option Value) h tk I oi, i < n → Difs I ((fo, lst pvs k) :: (ex ++ (g ++ news))) → P i pvs g → LCg.Off1 fo (g ++ news) → LCg.Off1 I (g ++ news) → (∀ q ∈ g, LCg.Off1 q.1 news) → Fr h₀ env.locals h (fun y => if y = x then some (.int (a₀ + (i : Int)) t) else if stored.contains y then u y else m₀ y) → News h₀ env.locals h ((I, oi) :: (fo, lst pvs k) :: (ex ++ (g ++ news))) →
      wpAny (model prog w) A (execs body env) (GrowPost h₀ env.locals x stored m₀ fo ex news P (i + 1) (I, oi) { s with heap := h, toks := tk } Q) E { s with heap := h, toks := tk })
    (done : ∀ pvs k g (u : Str → Option Value) h tk, P n pvs g → LCg.Off1 fo (g ++ news) → (∀ q ∈ g, LCg.Off1 q.1 news) → Fr h₀ env.locals h (fun y => if y = x then u y else if stored.contains y then u y else m₀ y) → News h₀ env.locals h ((fo, lst pvs k) :: (ex ++ (g ++ news))) → Q .next { s with heap := h, toks := tk }) :
    wpAny (model prog w) A (pyIter (.ref r)) (fun it s₂ => LoopAtV prog w A h₀ env x body Q E it s₂) E s := by
  refine ksR (σ := List Value × Nat × Led) n (fun c => (fo, lst c.1 c.2.1) :: (ex ++ (c.2.2 ++ news))) (fun _ => []) stored (fun i c => P i c.1 c.2.2 ∧ LCg.Off1 fo c.2.2 ∧ (∀ q ∈ c.2.2, LCg.Off1 q.1 news)) (pv0, k0, []) hh hr hsmall hn F N (fun _ h => nomatch h) ⟨h0, trivial, fun _ h => nomatch h⟩ ?_ ?_
  · rintro i t ⟨pvs, k, g⟩ u h tk I oi hi ho ⟨hP, hg1, hg2⟩ F₁ N₁
    have hoI : LCg.Off1 I ((fo, lst pvs k) :: (ex ++ (g ++ news))) := off_of ho
    refine wpAny_mono (turn i t pvs k g u h tk I oi hi (difs_of hoI) hP (off_app hg1 hfo) (off_right hoI.2) hg2 F₁ N₁) (fun f s₂ p => ?_) fun _ _ e => e
    have fin : GrowEnd h₀ env.locals x stored m₀ fo ex news P (i + 1) (I, oi) { s with heap := h, toks := tk } s₂ → LEnd h₀ env.locals (KS (fun c : List Value × Nat × Led => (fo, lst c.1 c.2.1) :: (ex ++ (c.2.2 ++ news))) (fun _ => []) x stored m₀ (fun i c => P i c.1 c.2.2 ∧ LCg.Off1 fo c.2.2 ∧ (∀ q ∈ c.2.2, LCg.Off1 q.1 news)) (i + 1)) (I, oi) { s with heap := h, toks := tk } s₂ := by
      rintro ⟨h', tk', m', pvs', k', g', rfl, F', N', o1, o2, o3, hm, hP'⟩
      refine ks_end (pvs', k', g') F' N' (fun _ h => h) ?_ (fun _ h => nomatch h) (fun z h1 _ h3 => hm z h1 h3) ⟨hP', o2, o3⟩
      exact off_mem (D := I) (l := (fo, lst pvs' k') :: (ex ++ (g' ++ news))) ⟨hoI.1, off_app (off_left hoI.2) (off_app o1 (off_right (off_right hoI.2)))⟩
    cases f with
    | ret v => exact p
    | brk => exact p
    | next => exact fin p
    | cont => exact fin p
  · rintro ⟨pvs, k, g⟩ u h tk ⟨hP, hg1, hg2⟩ F₁ N₁
    exact done pvs k g u h tk hP (off_app hg1 hfo) hg2 F₁ N₁
end
theorem item_lit {prog : Program} {w : World} {A : Around} {E : Value → Shared → Prop} {s : Shared} {h₀ : Heap} {L : Addr} {news : Led} {value slice : PySem.Expr} {l : Addr} {vs : List Value} {n : Nat} {k : Int} {u : Tok} {v : Value} {Q : Value → Shared → Prop}
    (N : News h₀ L s.heap news) (hm : (l, W.listOf vs.toArray n) ∈ news) (h0 : 0 ≤ k) (hhi : k < 2 ^ 63) (hx : vs[k.toNat]? = some v) (h : Q v s)
    (hs : subscripted slice false (.ref l) (.int k u) = operate [.ref l, .int k u] (getItem (.ref l) (.int k u)) := by with_unfolding_all rfl) :
    wpAny (model prog w) A (subscriptTail value slice (.ref l) (.int k u)) Q E s :=
  have hl := News.isList N hm
  tail_any hl.typeIs slot_list_getitem.lookup (wpAny_getItem_list hl h0 hhi (by simpa using hx) h) hs
theorem ln_Lg1 : True := by
  k_with "my item" => ((k_here; (with_reducible show wpAny _ _ (subscriptTail _ _ (Value.ref _) (Value.int _ _)) _ _ _); k_dflt (refine' item_lit (by k_asm) (by k_mem) (by first | decide | omega) (by first | decide | omega) (by first | exact rfl | assumption) ?_ (by with_unfolding_all rfl); k_whole)))
  k_with "my @subscriptTail Name Constant ref int" => ((k_extra "my item"))
  trivial
theorem str_small {M : Program} {w : World} {A : Around} {E : Value → Shared → Prop} {s : Shared} {a : Int} {t : Tok} {Q : Value → Shared → Prop} (h0 : -1000 ≤ a) (h1 : a ≤ 1000) (h : Q (.str (Str.ofString (toString a)) s.toks) { s with toks := s.toks + 1 }) : wpAny (model M w) A (call (.type "str") [.int a t]) Q E s :=
  P.str_of_int (Nat.lt_of_le_of_lt (Nat.log2_le_self _) (by omega)) h
theorem ln_Lg2 : True := by
  k_with "my @call type:str" => ((k_here; (with_reducible show wpAny _ _ (call (Value.type "str") [Value.int _ _]) _ _ _); refine str_small (by omega) (by omega) ?_))
  k_with "my @GrowPost" => ((dsimp only [GrowPost]))
  k_with "my @getMethod ref" => ((k_here; (with_reducible show wpAny _ _ (getMethod (Value.ref _) (Str.ofString "get") _) _ _ _); k_dflt (refine kdg_method (knd := PySem.strKind _ _) (by k_asm) (by k_mem) (by k_asm) ?_)))
  k_with "my @call builtin:dict.get" => ((k_here; k_dflt (first | refine kdg_get1 (knd := PySem.strKind _ _) (by k_asm) (by k_mem) (by k_asm) (by k_asm) (strKind_is _ _ _ _) (some _) (by rfl) ?_ | refine kdg_get1 (knd := PySem.strKind _ _) (by k_asm) (by k_mem) (by k_asm) (by k_asm) (strKind_is _ _ _ _) none (by rfl) ?_); (try dsimp only [Option.getD])))
  k_with "my @compareOp NotIn str ref" => ((k_here; k_dflt (first | refine kdg_notin (knd := PySem.strKind _ _) (by k_asm) (by k_mem) (by k_asm) (by k_asm) (strKind_is _ _ _ _) true (by rfl) ?_ | refine kdg_notin (knd := PySem.strKind _ _) (by k_asm) (by k_mem) (by k_asm) (by k_asm) (strKind_is _ _ _ _) false (by rfl) ?_); (try dsimp only [Bool.not_true, Bool.not_false])))
  trivial
theorem off_Lh : True := by
  w_top off
  trivial
-- part Lh
theorem ln_Lh1 : True := by
  k_with "my @call builtin:list.append" => ((k_here; (with_reducible show wpAny _ _ (call (Value.builtin "list.append") [Value.ref _, _]) _ _ _); k_dflt (refine' append_K (by k_asm) (by k_asm) (by k_upd) ?_ (by (rw [List.size_toArray, sizeLine_eq]; (try simp only [List.length_append, List.length_map, List.length_cons, List.length_nil]); omega)); k_whole; intro h'zz F'zz N'zz; (try simp only [List.toList_toArray] at N'zz); (try k_sweep))))
  trivial
theorem stored2 {a b z : Str} (h : [a, b].contains z = false) : z ≠ a ∧ z ≠ b := by
  simp at h
  exact h
theorem grow_snoc {h₀ : Heap} {L : Addr} {x : Str} {stored : List Str} {m₀ : Str → Option Value} {fo : Addr} {ex news : Led} {P : Nat → List Value → Led → Prop} {i : Nat} {it : Addr × Obj} {s₁ : Shared} {h' : Heap} {tk : Nat} {m' : Str → Option Value} {all : Led} {pvs : List Value} {v : Value} {k' : Nat} (g' : Led)
    (F' : Fr h₀ L h' m') (N' : News h₀ L h' all) (hs : ∀ p ∈ it :: (fo, W.listOf (pvs.toArray.push v) k') :: (ex ++ (g' ++ news)), p ∈ all) (o1 : LCg.Off1 it.1 g') (o2 : LCg.Off1 fo g') (o3 : ∀ q ∈ g', LCg.Off1 q.1 news) (hm : ∀ z, z ≠ x → stored.contains z = false → m' z = m₀ z) (hP : P i (pvs ++ [v]) g') :
    GrowEnd h₀ L x stored m₀ fo ex news P i it s₁ { s₁ with heap := h', toks := tk } := by
  have e : pvs.toArray.push v = (pvs ++ [v]).toArray := by simp
  rw [e] at hs
  exact ⟨h', tk, m', _, k', g', rfl, F', drop_to N' hs, o1, o2, o3, hm, hP⟩
-- part X7
def Hid (P : Prop) : Prop := P
def matPcs (name : Str) (ns : List Int) (r c : Nat) (hs : Nat → Str) : List (Str × List Str) :=
  (List.range c).map fun i => (name ++ Str.ofString "." ++ hs i, ((ns.drop (i * r)).take r).map fun k => Str.ofString (toString k))
theorem matPcs_succ (name : Str) (ns : List Int) (r c : Nat) (hs : Nat → Str) : matPcs name ns r (c + 1) hs = matPcs name ns r c hs ++ [(name ++ Str.ofString "." ++ hs c, ((ns.drop (c * r)).take r).map fun k => Str.ofString (toString k))] := by
  simp [matPcs, List.range_succ]
theorem matPcs_len (name : Str) (ns : List Int) (r c : Nat) (hs : Nat → Str) : (matPcs name ns r c hs).length = c := by simp [matPcs]
theorem two_of {i : Nat} (h : i < 2) : i = 0 ∨ i = 1 := by
  match i, h with
  | 0, _ => exact .inl rfl
  | 1, _ => exact .inr rfl
theorem mat_le {ns : List Int} {r c : Int} {i : Nat} (hr : r = 1 ∨ r = 2) (hc : c = 1 ∨ c = 2) (hl : (ns.length : Int) = r * c) (hi : i < c.toNat) : i * r.toNat + r.toNat ≤ ns.length := by
  rcases hr with rfl | rfl <;> rcases hc with rfl | rfl
  · rw [Int.ofNat.inj (show Int.ofNat ns.length = Int.ofNat 1 from hl), show i = 0 from Nat.lt_one_iff.mp hi]; decide
  · rw [Int.ofNat.inj (show Int.ofNat ns.length = Int.ofNat 2 from hl)]; rcases two_of hi with rfl | rfl <;> decide
  · rw [Int.ofNat.inj (show Int.ofNat ns.length = Int.ofNat 2 from hl), show i = 0 from Nat.lt_one_iff.mp hi]; decide
  · rw [Int.ofNat.inj (show Int.ofNat ns.length = Int.ofNat 4 from hl)]; rcases two_of hi with rfl | rfl <;> decide
theorem mat_cut2 {ns : List Int} {vs : List Value} {r c : Int} {i : Nat} (hr : r = 1 ∨ r = 2) (hc : c = 1 ∨ c = 2) (hv : vs.length = ns.length) (hl : (ns.length : Int) = r * c) (hi : i < c.toNat) :
   List.take (min ((0 + (i : Int) + 1) * r).toNat vs.length - ((0 + (i : Int)) * r).toNat) (List.drop ((0 + (i : Int)) * r).toNat ns) = (ns.drop (i * r.toNat)).take r.toNat := by
  have h4 := mat_le hr hc hl hi
  have hR : ∃ R : Nat, r = R := by rcases hr with rfl | rfl; exact ⟨1, rfl⟩; exact ⟨2, rfl⟩
  obtain ⟨R, rfl⟩ := hR
  have e1 : ((0 + (i : Int)) * R).toNat = i * R := by rw [Int.zero_add]; exact_mod_cast Int.toNat_natCast (i * R)
  have e2 : ((0 + (i : Int) + 1) * R).toNat = (i + 1) * R := by rw [Int.zero_add]; exact_mod_cast Int.toNat_natCast ((i + 1) * R)
  rw [Int.toNat_natCast] at h4
  rw [e1, e2, hv, Int.toNat_natCast, Nat.succ_mul, Nat.min_eq_left h4, Nat.add_sub_cancel_left]
theorem mat_cut {α : Type} (f : Int → α) (na : α) {vs : List Value} {ns : List Int} {r c : Int} {i : Nat} (hr : r = 1 ∨ r = 2) (hc : c = 1 ∨ c = 2) (hv : vs.length = ns.length) (hl : (ns.length : Int) = r * c) (hi : i < c.toNat) :
   (List.map f (List.take (min ((0 + (i : Int) + 1) * r).toNat vs.length - ((0 + (i : Int)) * r).toNat) (List.drop ((0 + (i : Int)) * r).toNat ns))).take r.toNat ++ List.replicate (r.toNat - (List.map f (List.take (min ((0 + (i : Int) + 1) * r).toNat vs.length - ((0 + (i : Int)) * r).toNat) (List.drop ((0 + (i : Int)) * r).toNat ns))).length) na = List.map f ((ns.drop (i * r.toNat)).take r.toNat) := by
  rw [mat_cut2 hr hc hv hl hi]
  have e6 : (List.map f ((ns.drop (i * r.toNat)).take r.toNat)).length = r.toNat := by
    rw [List.length_map, List.length_take, List.length_drop]
    exact Nat.min_eq_left (Nat.le_sub_of_add_le' (mat_le hr hc hl hi))
  rw [e6, Nat.sub_self, List.replicate_zero, List.append_nil, List.take_of_length_le (Nat.le_of_eq e6)]
theorem mat_facts {ns : List Int} {r c : Int} {i : Nat} (hr : r = 1 ∨ r = 2) (hc : c = 1 ∨ c = 2) (hl : (ns.length : Int) = r * c) (hi : i < c.toNat) :
   i < 2 ∧ ns.length ≤ 4 ∧ 0 ≤ (0 + (i : Int)) * r ∧ (0 + (i : Int)) * r ≤ ns.length ∧ 0 ≤ (0 + (i : Int) + 1) * r ∧ (0 + (i : Int) + 1) * r ≤ ns.length := by
  rcases hr with rfl | rfl <;> rcases hc with rfl | rfl
  · rw [Int.ofNat.inj (show Int.ofNat ns.length = Int.ofNat 1 from hl), show i = 0 from Nat.lt_one_iff.mp hi]; decide
  · rw [Int.ofNat.inj (show Int.ofNat ns.length = Int.ofNat 2 from hl)]; rcases two_of hi with rfl | rfl <;> decide
  · rw [Int.ofNat.inj (show Int.ofNat ns.length = Int.ofNat 2 from hl), show i = 0 from Nat.lt_one_iff.mp hi]; decide
  · rw [Int.ofNat.inj (show Int.ofNat ns.length = Int.ofNat 4 from hl)]; rcases two_of hi with rfl | rfl <;> decide
theorem reg_Dm : True := by
  k_with "my @getMethod ref" => ((k_here; (with_reducible show wpAny _ _ (getMethod (Value.ref _) (Str.ofString "get") _) _ _ _); k_dflt (refine kdg_method (knd := PySem.strKind _ _) (by k_asm) (by k_mem) (by k_asm) ?_)))
  k_with "my @call builtin:dict.get" => ((k_here; k_dflt (first | refine kdg_get1 (knd := PySem.strKind _ _) (by k_asm) (by k_mem) (by k_asm) (by k_asm) (strKind_is _ _ _ _) (some _) (by rfl) ?_ | refine kdg_get1 (knd := PySem.strKind _ _) (by k_asm) (by k_mem) (by k_asm) (by k_asm) (strKind_is _ _ _ _) none (by rfl) ?_); (try dsimp only [Option.getD])))
  k_with "my tailm" => (first | assumption | exact List.Mem.head _ | (refine List.Mem.tail _ ?_; k_extra "my tailm"))
  k_with "my o3b" => (((try simp only [List.cons_append, List.nil_append]); refine off3By (by with_reducible assumption) ?_; k_extra "my o3l"))
  k_with "my cend" => ((k_dflt (refine' cend (by k_asm) (by k_asm) (by k_extra "my pull") (by k_extra "my pull") (by k_extra "my pull") (by first | assumption | (k_whole; first | k_extra "my o3b" | (refine And.intro ⟨by k_ne, by k_ne, by k_ne⟩ ?_; k_extra "my o3b") | (refine And.intro ⟨by k_ne, by k_ne, by k_ne⟩ ?_; assumption) | (refine And.intro ⟨by k_ne, by k_ne, by k_ne⟩ ?_; refine And.intro ⟨by k_ne, by k_ne, by k_ne⟩ ?_; assumption))) (by first | exact True.intro | exact Or.inl (Or.inl (by assumption)) | exact Or.inl (by assumption) | exact Or.inr ⟨_, by k_mem, rfl, _, rfl⟩) ?_)))
  k_with "my @CompEnd" => ((k_extra "my cend"))
  trivial
theorem off_Dm : True := by
  w_top off
  trivial
-- part Dm
theorem below3 {D D2 D3 : Addr} {o o2 o3 : Obj} {r l : Led} (h : ∀ q ∈ (D, o) :: (D2, o2) :: (D3, o3) :: r, LCg.Off1 q.1 l) : LCg.Off1 D3 l := h (D3, o3) (.tail _ (.tail _ (.head _)))
theorem ln_Dm1 : True := by
  k_with "my @call ref" => ((k_here; (with_reducible show wpAny _ _ (call (Value.ref 45) _ _) _ _ _); k_dflt (refine' Tell.useR (by k_asm) (by k_asm) (by k_asm) (by k_asm) (by k_asm) (by first | exact rfl | assumption) (dimn_ _ _ _ _ _ _ _ _ _ _ _ _ _ _ _ _ _ _ _ _ _ _ _ _ _ _ _ _ _ _ _ _ _ _ _ _ _ _ _ _ _ _ _ _ _ ?_ ?_ ?_ (by assumption)) (by k_extra "my need") (by exact Nat.le_of_ble_eq_true rfl) (by exact Nat.le_of_ble_eq_true rfl) ?_; (try any_goals (refine id_prop ?_; first | first | assumption | omega)); (try any_goals (refine id_prop ?_; first | first | assumption | omega)); k_whole; intro bzz c1zz c2zz k1zz k2zz h'zz tk'zz F'zz N'zz l1zz; (try simp only [List.nil_append, List.cons_append] at N'zz); (have l2zz := difs_of (below2 l1zz).1; have l3zz := difs_of (below2 l1zz).2; have l4zz := difs_of (below3 l1zz); clear l1zz; (try simp only [List.nil_append, List.cons_append] at l2zz l3zz l4zz)); (try dsimp only); (try k_sweep))))
  k_with "my @subscriptTail Name Name ref int" => ((k_extra "my item"))
  trivial
theorem reg_XJ : True := by
  k_with "my fold" => k_fold
  trivial
theorem off_XJ : True := by
  w_top off
  trivial
-- part XJ
/-- the names that a matrix has, or has not -/
def HeadsPart (w : World) (c : Int) (hs : Nat → Str) (rest : List (Str × Value)) (ex : Led) : Prop :=
  (rest = [] ∧ ex = [] ∧ hs = fun (i : Nat) => Str.ofString (toString (0 + (i : Int) + 1))) ∨
  (∃ (nd dnd nl a1 d1 l1 a2 d2 l2 : Addr) (v1 v2 v3 v4 v5 v6 w1 w2 w3 w4 w5 w6 z1 z2 z3 z4 z5 z6 : Tok) (nn' n1 n2 : Nat) (rv hv : List Value),
    rest = [(Str.ofString "dimnames", Value.ref nd)] ∧
    ex = [(nd, instObj 199 dnd), (dnd, vecD w.params v1 v2 v3 v4 v5 (.str (Str.ofString "list") v6) (.ref nl) .none), (nl, lst [.ref a1, .ref a2] nn'),
     (a1, instObj 199 d1), (d1, vecD w.params w1 w2 w3 w4 w5 (.str (Str.ofString "character") w6) (.ref l1) .none), (a2, instObj 199 d2), (d2, vecD w.params z1 z2 z3 z4 z5 (.str (Str.ofString "character") z6) (.ref l2) .none), (l1, lst rv n1), (l2, lst hv n2)] ∧
    rv.length ≤ 10 ∧ hv.length ≤ 10 ∧ ∀ i < c.toNat, ∃ t, hv[(0 + (i : Int)).toNat]? = some (.str (hs i) t))
/-- what the name heads then holds -/
def HeadsAt (c : Int) (hs : Nat → Str) (gr : Led) (v : Value) : Prop :=
  (v = .none ∧ hs = fun (i : Nat) => Str.ofString (toString (0 + (i : Int) + 1))) ∨
  (∃ (b : Addr) (hv : List Value) (n : Nat), v = .ref b ∧ (b, lst hv n) ∈ gr ∧ hv.length ≤ 10 ∧ ∀ i < c.toNat, ∃ t, hv[(0 + (i : Int)).toNat]? = some (.str (hs i) t))
theorem mat_slice {vs : List Value} {ns : List Int} {r c : Int} {i : Nat} (hr : r = 1 ∨ r = 2) (hc : c = 1 ∨ c = 2) (hl : (ns.length : Int) = r * c) (hv : IntsAre vs ns) (h0 : ∀ k ∈ ns, -100 ≤ k) (h1 : ∀ k ∈ ns, k ≤ 200) (hi : i < c.toNat) :
   ∃ sl sn, List.take (min ((0 + (i : Int) + 1) * r).toNat vs.length - ((0 + (i : Int)) * r).toNat) (List.drop ((0 + (i : Int)) * r).toNat vs) = sl ∧ IntsAre sl sn ∧ (∀ k ∈ sn, -100 ≤ k) ∧ (∀ k ∈ sn, k ≤ 200) ∧ sn.length ≤ 10 ∧ (List.map (fun k => Str.ofString (toString k)) sn).length ≤ 10 ∧
     ∀ na, (List.map (fun k => Str.ofString (toString k)) sn).take r.toNat ++ List.replicate (r.toNat - (List.map (fun k => Str.ofString (toString k)) sn).length) na = List.map (fun k => Str.ofString (toString k)) ((ns.drop (i * r.toNat)).take r.toNat) := by
  have hm := (mat_facts hr hc hl hi).2.1
  have hvl := hv.length
  have hs : IntsAre (List.take (min ((0 + (i : Int) + 1) * r).toNat vs.length - ((0 + (i : Int)) * r).toNat) (List.drop ((0 + (i : Int)) * r).toNat vs)) (List.take (min ((0 + (i : Int) + 1) * r).toNat vs.length - ((0 + (i : Int)) * r).toNat) (List.drop ((0 + (i : Int)) * r).toNat ns)) := (hv.drop _).take _
  have hls : (List.take (min ((0 + (i : Int) + 1) * r).toNat vs.length - ((0 + (i : Int)) * r).toNat) (List.drop ((0 + (i : Int)) * r).toNat vs)).length ≤ 10 := by
    refine Nat.le_trans (List.length_take_le' _ _) ?_
    rw [List.length_drop]
    exact Nat.le_trans (Nat.sub_le _ _) (hvl ▸ Nat.le_trans hm (by decide))
  refine ⟨_, _, rfl, hs, fun k hk => h0 k (List.mem_of_mem_drop (List.mem_of_mem_take hk)), fun k hk => h1 k (List.mem_of_mem_drop (List.mem_of_mem_take hk)), hs.length ▸ hls, ?_, fun na => mat_cut _ na hr hc hvl hl hi⟩
  rw [List.length_map, ← hs.length]
  exact hls
theorem off_sub {D : Addr} {l l' : Led} (h : LCg.Off1 D l) (s : ∀ p ∈ l', p ∈ l) : LCg.Off1 D l' := off_of fun p hp => off_mem h p (s p hp)
theorem news_in {h₀ h : Heap} {L : Addr} {l : Led} {q : Addr × Obj} (N : News h₀ L h l) (hq : q ∈ l) : News h₀ L h (q :: l) := drop_to N fun p hp => by
  rcases List.mem_cons.mp hp with rfl | hp
  · exact hq
  · exact hp
theorem nm_seq {h₀ h : Heap} {L a : Addr} {vs : Array Value} {n : Nat} {l : Led} (_ : News h₀ L h ((a, W.listOf vs n) :: l)) : ∃ a' n', a' = a ∧ n' = n := ⟨a, n, rfl, rfl⟩
theorem ln_XJ1 : True := by
  k_with "my @pyIter ref" => ((k_of "place" => refine to_held ?_))
  k_with "my @eval IfExp" => (((fail_if_success (rename Free => hfreezz)); (with_reducible show wpAny _ _ (eval (PySem.Expr.IfExp (PySem.Expr.Compare _ _ _ _) _ _ _) _) _ _ _); refine to_held ?_))
  k_with "my @eval IfExp" => (((fail_if_success (rename Free => hfreezz)); (with_reducible show wpAny _ _ (eval (PySem.Expr.IfExp (PySem.Expr.BoolOp _ _ _) _ _ _) _) _ _ _); refine to_held ?_))
  trivial
theorem fc_matj (w : World) (x dx l dd xd dxd ld : Addr) (od : Obj) (vs : List Value) (ns : List Int) (hs : Nat → Str) (rest : List (Str × Value)) (ex : Led) (name : Str) (tn tr t t7 t1 t2 t3 t4 t5 u1 u2 u3 u4 u5 u6 u7 u8 u9 : Tok) (n nl : Nat) (r c : Int) (hr : r = 1 ∨ r = 2) (hc : Hid (c = 1 ∨ c = 2)) (hi : IntsAre vs ns) (h0 : ∀ k ∈ ns, -100 ≤ k) (h1 : ∀ k ∈ ns, k ≤ 200) (hl : Hid ((ns.length : Int) = r * c))
  (hnm : name.length ≤ 10) (hhs : ∀ i < c.toNat, (hs i).length ≤ 10) (hlo : (dd == sysModules) = false) (hd : Obj.IsDictOf (PySem.strKind PySem.Challenge.rw_qd0173_01.row.prog w) od ((Str.ofString "dim", Value.ref xd) :: rest)) (hH : HeadsPart w c hs rest ex) :
  Tell 600 900 w 405 [.ref x, .str name tn, .int 7 t7, .int r tr] [] ((x, instObj 199 dx) :: (dx, vecD w.params t1 t2 t3 t4 t5 (.str (Str.ofString "integer") t) (.ref l) (.ref dd)) :: (l, lst vs n) :: (dd, od) :: (xd, instObj 199 dxd) :: (dxd, vecD w.params u2 u3 u4 u5 u6 (.str (Str.ofString "integer") u7) (.ref ld) .none) :: (ld, lst [.int r u8, .int c u9] nl) :: ex) []
    (fun R => ∀ b pvs n' g, PiecesIn g pvs (matPcs name ns r.toNat c.toNat hs) → LCg.Off1 b g → R (.ref b) [] ((b, lst pvs n') :: g)) := by
  unfold Tell
  intro p loose mean mg mb gd cn cs ca ccd cl outer A₀ base h₀ L m news s Q E B F X N T hk hsep hret
  simp only [List.cons_append, List.nil_append] at N
  walk_at "tell enter"
  have hlen := hi.length
  try k_fold
  k_steps
  refine of_held ?_
  rename Fr _ _ _ _ => lF
  rename News _ _ _ _ => lN
  obtain ⟨D1, nD, rfl, rfl⟩ := nm_seq lN
  refine join_val lF (fun NN v => ∃ gr, NN ((D1, W.listOf #[.int r u8, .int c u9] nD) :: (x, instObj 199 dx) :: (dx, vecD w.params t1 t2 t3 t4 t5 (.str (Str.ofString "integer") t) (.ref l) (.ref dd)) :: (l, lst vs n) :: gr) ∧ (∀ p ∈ news, p ∈ gr) ∧ HeadsAt c hs gr v) ?j1 ?j2
  case j1 =>
    intro Q' hQ'
    have hfree : Free := trivial
    rcases hH with ⟨rfl, rfl, hh⟩ | ⟨nd, dnd, nl2, a1, d1, l1, a2, d2, l2, v1, v2, v3, v4, v5, v6, w1, w2, w3, w4, w5, w6, z1, z2, z3, z4, z5, z6, nn', n1, n2, rv, hv, rfl, rfl, hrv, hhv, hh⟩
    · try simp only [List.cons_append, List.nil_append] at *
      k_steps
      exact hQ' _ _ _ (by assumption) ⟨news, drop_to (by assumption) (by k_extra "my sub"), fun _ h => h, .inl ⟨rfl, hh⟩⟩
    · try simp only [List.cons_append, List.nil_append] at *
      k_steps
      exact hQ' _ _ _ (by assumption) ⟨(_, lst hv _) :: news, drop_to (by assumption) (by k_extra "my sub"), fun _ h => .tail _ h, .inr ⟨_, hv, _, rfl, .head _, hhv, hh⟩⟩
  case j2 =>
    intro h3 tk3 v3 F3 hR
    obtain ⟨gr, N3, hgr, hV⟩ := hR
    clear lF lN
    k_steps
    refine of_held ?_
    rename IsRange _ _ _ _ _ _ _ _ => lR
    rename News _ _ _ _ => lN
    rename Fr _ _ _ _ => lF
    have hc' : c = 1 ∨ c = 2 := hc
    have hl' : (ns.length : Int) = r * c := hl
    have hsm : Builtin.Range.small 0 c 1 = true := by rcases hc' with rfl | rfl <;> decide
    have hsz : Builtin.Range.rangeSize 0 c 1 = (c.toNat : Int) := by rcases hc' with rfl | rfl <;> decide
    refine' growR c.toNat [_, _, _, _] gr [Str.ofString "part", Str.ofString "head"] (fun i pvs g => PiecesIn g pvs (matPcs name ns r.toNat i hs)) rfl lR hsm hsz lF lN ?gA .nil ?gB ?gC
    case gA => k_extra "my off1"
    case gB =>
      intro i t pvs k g u h tk I oi hin hoI hP hfo hIg hg F1 N1
      try k_fold
      clear lF lN
      simp only [List.cons_append, List.nil_append] at N1
      try simp only [List.cons_append, List.nil_append] at hoI
      skip
      obtain ⟨hi2, hn4, hp0, hp1, hp2, hp3⟩ := mat_facts hr hc' hl' hin
      obtain ⟨sl, sn, hsl, his, h0s, h1s, hls, hlm, hcut⟩ := mat_slice hr hc' hl' hi h0 h1 hin
      clear hl' hc' hsm hsz
      have hhl := hhs i hin
      have hpl : pvs.length = i := by rw [hP.length, matPcs_len]
      try k_fold
      k_steps
      refine of_held ?_
      rename Fr _ _ _ _ => lF2
      rename News _ _ _ _ => lN2
      refine join_str (hs i) lF2 lN2 ?s1 ?s2
      case s1 =>
        intro Q' hQ'
        have hfree : Free := trivial
        rcases hV with ⟨rfl, hh⟩ | ⟨b, hv, nv, rfl, hm, hhv, hh⟩
        · have e : hs i = Str.ofString (toString (0 + (i : Int) + 1)) := by rw [hh]
          rw [e] at hQ'
          k_steps
          exact hQ' _ _ _ (by assumption) (by assumption)
        · have ob := hh i hin
          obtain ⟨thi, hih⟩ := ob
          have N5 := news_in (q := (b, lst hv nv)) lN2 (by simp only [List.mem_cons, List.mem_append, hm, or_true])
          clear lN2
          k_steps
          exact hQ' _ _ _ (by assumption) (drop_to (by assumption) fun p hp => .tail _ hp)
      case s2 =>
        intro h4 tk4 t4 F4 N4
        clear lF2 lN2
        rw [hsl] at N4
        clear hsl
        k_steps
        rename StrsAre _ _ => hst
        rw [hcut] at hst
        refine' grow_snoc ((_, tup [.str _ _, .ref _] _) :: (_, lst _ _) :: g) ?FF ?NN ?SS ?o1 ?o2 ?o3 ?hm ?hP
        case FF => assumption
        case NN => assumption
        case SS => simp only [List.cons_append, List.nil_append]; k_extra "my sub"
        case o1 => exact ⟨by k_extra "my ne", by k_extra "my ne", off_left hIg⟩
        case o2 => exact ⟨by k_extra "my ne", by k_extra "my ne", off_left hfo⟩
        case o3 => exact aboveC (off_right (l := g) (by k_extra "my off1")) (aboveC (off_right (l := g) (by k_extra "my off1")) hg)
        case hm =>
          intro z hz1 hz2
          try k_fold
          obtain ⟨hz2, hz3⟩ := stored2 hz2
          simp [kstB, hz1, hz2, hz3]
        case hP =>
          rw [matPcs_succ]
          exact (hP.mono fun p hp => .tail _ (.tail _ hp)).append (.cons ⟨_, _, _, _, _, _, rfl, .head _, .tail _ (.head _), hst⟩ .nil)
    case gC =>
      intro pvs k g u h tk hP hfo hg F1 N1
      try k_fold
      clear lF lN
      simp only [List.cons_append, List.nil_append] at N1
      try k_fold
      k_steps
      refine' hret _ pvs _ g hP (off_left hfo) _ _ ?FF (drop_to ?NN ?SS) ?AA
      case FF => assumption
      case NN => assumption
      case SS =>
        intro p hp
        rcases List.mem_cons.mp hp with rfl | hp
        · exact .head _
        rcases List.mem_append.mp hp with hp | hp
        · simp only [List.mem_cons, List.mem_append, hp, true_or, or_true]
        · have := hgr p hp
          simp only [List.mem_cons, List.mem_append, this, or_true]
      case AA => exact aboveC (off_sub (off_right hfo) hgr) fun q hq => off_sub (hg q hq) hgr
theorem reg_Lj : True := by
  w_top off
  k_with_none
  k_with "tell start" => ((unfold Tell; intro pzz loosezz meanzz mgzz mbzz gdzz cnzz cszz cazz ccdzz clzz outerzz A₀zz basezz h₀zz Lzz mzz newszz szz Qzz Ezz Bzz Fzz Xzz Nzz Tzz hkzz hsepzz hretzz; simp only [List.cons_append, List.nil_append] at Nzz; walk_at "tell enter"))
  k_with "my @call ref" => ((k_here; (with_reducible show wpAny _ _ (call (Value.ref _) _ _) _ _ _); first | walk_at "tell enter" | walk_at "tell enterC"))
  k_with "my cn" => (first | with_reducible exact And.left | with_reducible exact cn_id | ((with_reducible refine cn_sk ?_); k_extra "my cn"))
  k_with "my conj" => ((k_whole; (with_reducible refine cn_pick (by with_reducible assumption) ?_); k_extra "my cn"))
  k_with "my nn" => (first | with_reducible exact sd1 | with_reducible exact sd2 | with_reducible exact sd3 | with_reducible exact sd4 | with_reducible exact sd5 | with_reducible exact sd6 | with_reducible exact sd7 | with_reducible exact se1 | with_reducible exact se2 | with_reducible exact se3 | with_reducible exact se4 | with_reducible exact se5 | with_reducible exact se6 | with_reducible exact se7 | ((with_reducible refine su ?_); k_extra "my nn"))
  k_with "my lt0" => (first | with_reducible assumption | k_extra "my conj")
  k_with "my hyp" => (first | with_reducible assumption | with_reducible exact And.left (by with_reducible assumption) | with_reducible exact And.right (by with_reducible assumption))
  k_with "my omega" => ((k_whole; first | with_reducible assumption | decide | ((with_reducible show @Ne Nat _ _); first | (k_extra "my nn") | with_reducible exact nu1 (by k_extra "my lt0") | with_reducible exact nu2 (by k_extra "my lt0") | with_reducible exact nu3 (by k_extra "my lt0") | with_reducible exact nu4 (by k_extra "my lt0") | with_reducible exact nu5 (by k_extra "my lt0") | with_reducible exact nu6 (by k_extra "my lt0") | with_reducible exact nu7 (by k_extra "my lt0") | with_reducible exact nv1 (by k_extra "my lt0") | with_reducible exact nv2 (by k_extra "my lt0") | with_reducible exact nv3 (by k_extra "my lt0") | with_reducible exact nv4 (by k_extra "my lt0") | with_reducible exact nv5 (by k_extra "my lt0") | with_reducible exact nv6 (by k_extra "my lt0") | with_reducible exact nv7 (by k_extra "my lt0") | with_reducible exact ne_l (by k_extra "my lt0") | with_reducible exact ne_r (by k_extra "my lt0")) | ((with_reducible show @LE.le Nat _ _ _); first | with_reducible exact qm1 (by k_extra "my hyp") (by k_extra "my hyp") (by first | with_reducible exact mx2 (by with_reducible assumption) (by k_extra "my hyp") (by k_extra "my hyp") | with_reducible exact mx3 (by with_reducible assumption) (by k_extra "my hyp") (by k_extra "my hyp") (by k_extra "my hyp")) (by decide) | with_reducible exact qm2 (by k_extra "my hyp") (by first | with_reducible exact mx2 (by with_reducible assumption) (by k_extra "my hyp") (by k_extra "my hyp") | with_reducible exact mx3 (by with_reducible assumption) (by k_extra "my hyp") (by k_extra "my hyp") (by k_extra "my hyp")) (by decide) | with_reducible exact qn1 (by k_extra "my hyp") (by decide) | with_reducible exact qn2 (by k_extra "my hyp") (by decide) | with_reducible exact qn8 (by k_extra "my hyp") (by k_extra "my hyp") (by decide) | with_reducible exact qn7 (by k_extra "my hyp") (by k_extra "my hyp") (by decide) | with_reducible exact qn10 (by k_extra "my hyp") (by k_extra "my hyp") (by decide) | with_reducible exact qn14 (by k_extra "my hyp") (by k_extra "my hyp") (by decide) | with_reducible exact qn13 (by k_extra "my hyp") (by decide) | with_reducible exact qn5 (by k_extra "my hyp") (by decide) | with_reducible exact qn6 (by k_extra "my hyp") (by k_extra "my hyp") (by decide) | with_reducible exact qn6b (by k_extra "my hyp") (by k_extra "my hyp") (by decide) | with_reducible exact qn6c (by k_extra "my hyp") (by k_extra "my hyp") (by decide) | with_reducible exact qn11 (by k_extra "my hyp") (by decide)) | ((with_reducible show @LT.lt Nat _ _ _); first | with_reducible exact qn3 (by k_extra "my hyp") (by decide) | with_reducible exact qn4 (by k_extra "my hyp") (by decide) | with_reducible exact qn9 (by k_extra "my hyp") (by k_extra "my hyp") (by decide) | with_reducible exact qn12 (by k_extra "my hyp") (by k_extra "my hyp") (by decide)) | ((with_reducible show @LE.le Int _ _ _); first | with_reducible exact qi1 (by k_extra "my hyp") (by decide) | with_reducible exact qi2 (by k_extra "my hyp") (by decide) | with_reducible exact qi5 (by k_extra "my hyp") (by decide) | with_reducible exact qi6 (by k_extra "my hyp") (by decide) | with_reducible exact qc5 (by decide) | with_reducible exact qc2 (by k_extra "my hyp") (by decide) | with_reducible exact qc7 (by decide) | with_reducible exact qc4 (by k_extra "my hyp") (by decide) | with_reducible exact qc11 (by decide) | with_reducible exact qc13 (by k_extra "my hyp") (by decide) | with_reducible exact qq1 (by k_extra "my hyp") (by decide) | with_reducible exact qq2 (by k_extra "my hyp") (by decide) | with_reducible exact qi10 (by k_extra "my hyp") (by decide)) | ((with_reducible show @LT.lt Int _ _ _); first | with_reducible exact mxi2 (by with_reducible assumption) (by k_extra "my hyp") (by k_extra "my hyp") (by decide) | with_reducible exact mxi3 (by with_reducible assumption) (by k_extra "my hyp") (by k_extra "my hyp") (by k_extra "my hyp") (by decide) | with_reducible exact qc14 (by with_reducible assumption) (by decide) | with_reducible exact qi3 (by k_extra "my hyp") (by decide) | with_reducible exact qi4 (by k_extra "my hyp") (by decide) | with_reducible exact qi7 (by k_extra "my hyp") (by decide) | with_reducible exact qi8 (by k_extra "my hyp") (by decide) | with_reducible exact qc6 (by decide) | with_reducible exact qc1 (by k_extra "my hyp") (by decide) | with_reducible exact qc8 (by decide) | with_reducible exact qc3 (by k_extra "my hyp") (by decide) | with_reducible exact qc12 (by decide) | with_reducible exact qc9 (by k_extra "my hyp") (by decide) | with_reducible exact qi9 (by k_extra "my hyp") (by decide)) | ((with_reducible show @Eq Nat _ _); first | with_reducible exact qe1 | with_reducible exact qe2) | ((with_reducible show Not _); first | with_reducible exact qc10 (by k_extra "my hyp") (by decide))))
  k_with "my ne" => (((refine neN ?_); (try dsimp only); first | with_reducible assumption | exact dif_ne (by with_reducible assumption) | exact dif_ne' (by with_reducible assumption) | k_extra "my difne" | with_reducible exact ne_l (by k_extra "my conj") | with_reducible exact ne_r (by k_extra "my conj") | omega))
  k_with "my difne" => (first | (refine difs_pick (by with_reducible assumption) ?_; intro h9zz; first | exact difs_at h9zz 0 rfl | exact difs_at h9zz 1 rfl | exact difs_at h9zz 2 rfl | exact difs_at h9zz 3 rfl | exact difs_at h9zz 4 rfl | exact difs_at h9zz 5 rfl | exact difs_at h9zz 6 rfl | exact difs_at h9zz 7 rfl | exact difs_at h9zz 8 rfl | exact difs_at h9zz 9 rfl | exact difs_at h9zz 10 rfl | exact difs_at h9zz 11 rfl | exact difs_at h9zz 12 rfl | exact difs_at h9zz 13 rfl | exact difs_at h9zz 14 rfl | exact difs_at h9zz 15 rfl | exact difs_at h9zz 16 rfl | exact difs_at h9zz 17 rfl | exact difs_at h9zz 18 rfl | exact difs_at h9zz 19 rfl | exact difs_at h9zz 20 rfl | exact difs_at h9zz 21 rfl | exact difs_at h9zz 22 rfl | exact difs_at h9zz 23 rfl | exact difs_at h9zz 24 rfl | exact difs_at h9zz 25 rfl | exact difs_at h9zz 26 rfl | exact difs_at h9zz 27 rfl | exact difs_at h9zz 28 rfl | exact difs_at h9zz 29 rfl | exact difs_at h9zz 30 rfl | exact difs_at h9zz 31 rfl | exact difs_at h9zz 32 rfl | exact difs_at h9zz 33 rfl | exact difs_at h9zz 34 rfl | exact difs_at h9zz 35 rfl | exact difs_at h9zz 36 rfl | exact difs_at h9zz 37 rfl | exact difs_at h9zz 38 rfl | exact difs_at h9zz 39 rfl) | (refine difs_pick' (by with_reducible assumption) ?_; intro h9zz; first | exact difs_at' h9zz 0 rfl | exact difs_at' h9zz 1 rfl | exact difs_at' h9zz 2 rfl | exact difs_at' h9zz 3 rfl | exact difs_at' h9zz 4 rfl | exact difs_at' h9zz 5 rfl | exact difs_at' h9zz 6 rfl | exact difs_at' h9zz 7 rfl | exact difs_at' h9zz 8 rfl | exact difs_at' h9zz 9 rfl | exact difs_at' h9zz 10 rfl | exact difs_at' h9zz 11 rfl | exact difs_at' h9zz 12 rfl | exact difs_at' h9zz 13 rfl | exact difs_at' h9zz 14 rfl | exact difs_at' h9zz 15 rfl | exact difs_at' h9zz 16 rfl | exact difs_at' h9zz 17 rfl | exact difs_at' h9zz 18 rfl | exact difs_at' h9zz 19 rfl | exact difs_at' h9zz 20 rfl | exact difs_at' h9zz 21 rfl | exact difs_at' h9zz 22 rfl | exact difs_at' h9zz 23 rfl | exact difs_at' h9zz 24 rfl | exact difs_at' h9zz 25 rfl | exact difs_at' h9zz 26 rfl | exact difs_at' h9zz 27 rfl | exact difs_at' h9zz 28 rfl | exact difs_at' h9zz 29 rfl | exact difs_at' h9zz 30 rfl | exact difs_at' h9zz 31 rfl | exact difs_at' h9zz 32 rfl | exact difs_at' h9zz 33 rfl | exact difs_at' h9zz 34 rfl | exact difs_at' h9zz 35 rfl | exact difs_at' h9zz 36 rfl | exact difs_at' h9zz 37 rfl | exact difs_at' h9zz 38 rfl | exact difs_at' h9zz 39 rfl))
  k_with "my ctl" => (first | with_reducible exact ct_all | with_reducible exact ct_left | with_reducible exact ct_right | with_reducible exact ct_nil | with_reducible exact ct_one | ((with_reducible refine ct_keep ?_); k_extra "my ctl") | ((with_reducible refine ct_skip ?_); k_extra "my ctl"))
  k_with "my o3l" => (first | with_reducible exact o3_id | with_reducible exact o3_nil | ((with_reducible refine o3_keep ?_); k_extra "my o3l") | ((with_reducible refine o3_skip ?_); k_extra "my o3l"))
  k_with "my o3" => (first | with_reducible assumption | ((try simp only [List.cons_append, List.nil_append]); refine off3By (by with_reducible assumption) ?_; k_extra "my o3l") | (refine And.intro ⟨by k_ne, by k_ne, by k_ne⟩ ?_; k_extra "my o3"))
  k_with "my okl" => (first | with_reducible exact ok_id | with_reducible exact ok_left | with_reducible exact ok_right | with_reducible exact ok_nil | ((with_reducible refine ok_keep ?_); k_extra "my okl") | ((with_reducible refine ok_skip ?_); k_extra "my okl"))
  k_with "my offtail" => (first | with_reducible exact off_difs (by with_reducible assumption) | exact off_lt (by with_reducible assumption) | exact off_of (by with_reducible assumption) | exact off_all (by with_reducible assumption) | exact off_left (by with_reducible assumption) | exact off_right (by with_reducible assumption) | exact off_lt (all_up (by with_reducible assumption)) | exact off_lt (all_up (all_up (by with_reducible assumption))) | exact off_lt (all_up (all_up (all_up (by with_reducible assumption)))) | exact off_lt (all_up (all_up (all_up (all_up (by with_reducible assumption))))) | exact off_lt (all_up (all_up (all_up (all_up (all_up (by with_reducible assumption)))))) | exact off_lt (all_up (all_up (all_up (all_up (all_up (all_up (by with_reducible assumption))))))) | exact off_lt (And.right (by with_reducible assumption)) | exact And.right (by with_reducible assumption) | exact off_lt (And.right (And.right (by with_reducible assumption))) | exact And.right (And.right (by with_reducible assumption)) | exact off_lt (And.right (And.right (And.right (by with_reducible assumption)))) | exact And.right (And.right (And.right (by with_reducible assumption))) | exact off_lt (And.right (And.right (And.right (And.right (by with_reducible assumption))))) | exact And.right (And.right (And.right (And.right (by with_reducible assumption)))) | exact off_lt (And.right (And.right (And.right (And.right (And.right (by with_reducible assumption)))))) | exact And.right (And.right (And.right (And.right (And.right (by with_reducible assumption))))) | exact off_lt (And.right (And.right (And.right (And.right (And.right (And.right (by with_reducible assumption))))))) | exact And.right (And.right (And.right (And.right (And.right (And.right (by with_reducible assumption)))))) | exact off_lt (And.right (And.right (And.right (And.right (And.right (And.right (And.right (by with_reducible assumption)))))))) | exact And.right (And.right (And.right (And.right (And.right (And.right (And.right (by with_reducible assumption))))))) | exact off_lt (And.right (And.right (And.right (And.right (And.right (And.right (And.right (And.right (by with_reducible assumption))))))))) | exact And.right (And.right (And.right (And.right (And.right (And.right (And.right (And.right (by with_reducible assumption)))))))) | exact off_lt (And.right (And.right (And.right (And.right (And.right (And.right (And.right (And.right (And.right (by with_reducible assumption)))))))))) | exact And.right (And.right (And.right (And.right (And.right (And.right (And.right (And.right (And.right (by with_reducible assumption))))))))) | exact off_lt (And.right (And.right (And.right (And.right (And.right (And.right (And.right (And.right (And.right (And.right (by with_reducible assumption))))))))))) | exact And.right (And.right (And.right (And.right (And.right (And.right (And.right (And.right (And.right (And.right (by with_reducible assumption)))))))))) | exact off_lt (And.right (And.right (And.right (And.right (And.right (And.right (And.right (And.right (And.right (And.right (And.right (by with_reducible assumption)))))))))))) | exact And.right (And.right (And.right (And.right (And.right (And.right (And.right (And.right (And.right (And.right (And.right (by with_reducible assumption))))))))))) | exact off_lt (And.right (And.right (And.right (And.right (And.right (And.right (And.right (And.right (And.right (And.right (And.right (And.right (by with_reducible assumption))))))))))))) | exact And.right (And.right (And.right (And.right (And.right (And.right (And.right (And.right (And.right (And.right (And.right (And.right (by with_reducible assumption)))))))))))) | exact off_lt (And.right (And.right (And.right (And.right (And.right (And.right (And.right (And.right (And.right (And.right (And.right (And.right (And.right (by with_reducible assumption)))))))))))))) | exact And.right (And.right (And.right (And.right (And.right (And.right (And.right (And.right (And.right (And.right (And.right (And.right (And.right (by with_reducible assumption))))))))))))) | exact off_lt (And.right (And.right (And.right (And.right (And.right (And.right (And.right (And.right (And.right (And.right (And.right (And.right (And.right (And.right (by with_reducible assumption))))))))))))))) | exact And.right (And.right (And.right (And.right (And.right (And.right (And.right (And.right (And.right (And.right (And.right (And.right (And.right (And.right (by with_reducible assumption)))))))))))))))
  k_with "my off1" => (first | exact True.intro | with_reducible assumption | exact off_difs (by with_reducible assumption) | (refine offBy (by with_reducible assumption) ?_; k_extra "my okl") | (refine offByC (by with_reducible assumption) ?_; k_extra "my ctl") | (refine And.intro ?_ ?_; (k_extra "my ne"); k_extra "my off1") | k_extra "my offtail")
  k_with "my above" => (first | exact above0 | (simp only [List.nil_append, List.cons_append]; k_extra "my above") | (refine aboveC ?_ ?_; (k_extra "my off1"); (k_extra "my above")))
  k_with "my need" => (first | exact List.forall_mem_nil _ | (refine' List.forall_mem_cons.mpr ⟨(by k_mem), (by k_extra "my need")⟩))
  k_with "my split" => (skip)
  k_with "my @call builtin:list.pop" => ((k_here; k_dflt (refine' pop0 (by k_asm) (by k_asm) (by k_upd) (by first | assumption | (simp only [List.length_cons] at *; omega)) ?_; k_whole); intro h'zz F'zz N'zz; (try dsimp only [List.nil_append, List.cons_append] at N'zz)))
  k_with "my len" => (((try dsimp only); (try simp only [rjust_len, ljust_len, Str.length_append, len_space, len_nil, len_dot]); omega))
  k_with "my @binaryOp Add str str" => ((k_here; (with_reducible show wpAny _ _ (binaryOp Operator.Add (Value.str _ _) (Value.str _ _)) _ _ _); refine add_ (by k_extra "my len") ?_; intro _ _))
  k_with "my strs" => (first | with_reducible assumption | exact StrsAre.nil | (refine' StrsAre.cons _ _ (by k_extra "my strs")))
  k_with "my @call builtin:str.join" => ((k_here; (with_reducible show wpAny _ _ (call (Value.builtin "str.join") [Value.str _ _, Value.ref _]) _ _ _); k_dflt (refine' k_join (by k_asm) (by k_mem) (by (with_unfolding_all k_extra "my strs")) (by k_extra "my each") (by exact Nat.le_of_ble_eq_true rfl) ?_; k_whole; intro _ _)))
  k_with "my tlen" => (first | decide | exact Nat.le_trans (num_len (by omega) (by omega)) (by decide) | k_extra "my len")
  k_with "my each" => (first | assumption | exact List.forall_mem_nil _ | (refine List.forall_mem_cons.mpr ⟨by k_extra "my tlen", ?_⟩; k_extra "my each"))
  k_with "my @compareOp In str str" => ((k_here; refine in_no (by assumption) ?_))
  k_with "my @call builtin:str.isprintable" => ((k_here; refine KXw.isprintable (b := true) (by assumption) ?_))
  k_with "my @WhlIf" => ((refine WhlIf.no (decide_eq_false (by rw [pow18]; omega)) ?_))
  k_with "my @subscriptTail Attribute" => ((k_here; k_dflt (refine kba_turn (value' := PySem.Expr.Name (PySem.Str.ofString "_") ⟨0, 0, 0, 0⟩) (fun _ => rfl) ?_)))
  k_with "my @subscriptTail Subscript" => ((k_here; k_dflt (refine kba_turn (value' := PySem.Expr.Name (PySem.Str.ofString "_") ⟨0, 0, 0, 0⟩) (fun _ => rfl) ?_)))
  k_with "my @execs cons Assign cons" => (first | (k_here; k_gentoks) | ((with_reducible refine wpAny_execs_cons ?_); try dsimp only))
  k_with "my @execs cons" => (first | (k_here; k_gentoks) | ((with_reducible refine wpAny_execs_cons ?_); try dsimp only))
  k_with "my @exec Assign" => ((k_here; (with_reducible show wpAny _ _ (exec (PySem.Stmt.Assign [PySem.Expr.Name _ _] _ _) _) _ _ _); k_dflt (refine wpAny_Assign_Name ?_)))
  k_with "my @exec While" => ((k_here; k_dflt (refine whl_start 100 ?_)))
  k_with "my pull" => (first | exact Pull.head | (refine' Pull.tail (by k_extra "my pull")))
  k_with "my @call ref" => ((k_here; (with_reducible show wpAny _ _ (call (Value.ref 66) _ _) _ _ _); k_dflt (refine' Tell.useQ (by k_asm) (by k_asm) (by k_asm) (by k_asm) (by k_asm) (by first | exact rfl | assumption) (by k_extra "my need") (by exact Nat.le_of_ble_eq_true rfl) (by exact Nat.le_of_ble_eq_true rfl) (whole_ _ _ _ (by omega) (by omega)) ?_; k_whole; intro tkzz h'zz tk'zz F'zz N'zz l1zz; (try simp only [List.nil_append, List.cons_append] at N'zz); clear l1zz; (try dsimp only); (try k_sweep))))
  k_with "my @call ref" => ((k_here; (with_reducible show wpAny _ _ (call (Value.ref 377) _ _) _ _ _); k_dflt (refine' Tell.useQ (by k_asm) (by k_asm) (by k_asm) (by k_asm) (by k_asm) (by first | exact rfl | assumption) (by k_extra "my need") (by exact Nat.le_of_ble_eq_true rfl) (by exact Nat.le_of_ble_eq_true rfl) (padded_ _ _ _ _ _ (by omega) (by omega) (by k_extra "my len")) ?_; k_whole; intro tkzz h'zz tk'zz F'zz N'zz l1zz; (try simp only [List.nil_append, List.cons_append] at N'zz); clear l1zz; (try dsimp only); (try k_sweep))))
  k_with "my @call ref" => ((k_here; (with_reducible show wpAny _ _ (call (Value.ref 243) _ _) _ _ _); k_dflt (refine' Tell.useQ (by k_asm) (by k_asm) (by k_asm) (by k_asm) (by k_asm) (by first | exact rfl | assumption) (by k_extra "my need") (by exact Nat.le_of_ble_eq_true rfl) (by exact Nat.le_of_ble_eq_true rfl) (encode_ _ _ _ (by first | assumption | decide +kernel) (by first | assumption | decide +kernel) (by first | assumption | decide +kernel)) ?_; k_whole; intro tkzz h'zz tk'zz F'zz N'zz l1zz; (try simp only [List.nil_append, List.cons_append] at N'zz); clear l1zz; (try dsimp only); (try k_sweep))))
  k_with "my @call ref" => ((k_here; (with_reducible show wpAny _ _ (call (Value.ref 278) _ _) _ _ _); k_dflt (refine' Tell.useQ (by k_asm) (by k_asm) (by k_asm) (by k_asm) (by k_asm) (by first | exact rfl | assumption) (by k_extra "my need") (by exact Nat.le_of_ble_eq_true rfl) (by exact Nat.le_of_ble_eq_true rfl) (widest2 _ _ _ _ _ _ _ (by k_extra "my len") (by k_extra "my len")) ?_; k_whole; intro tkzz h'zz tk'zz F'zz N'zz l1zz; (try simp only [List.nil_append, List.cons_append] at N'zz); clear l1zz; (try dsimp only); (try k_sweep))))
  k_with "my @call ref" => ((k_here; (with_reducible show wpAny _ _ (call (Value.ref 278) _ _) _ _ _); k_dflt (refine' Tell.useQ (by k_asm) (by k_asm) (by k_asm) (by k_asm) (by k_asm) (by first | exact rfl | assumption) (by k_extra "my need") (by exact Nat.le_of_ble_eq_true rfl) (by exact Nat.le_of_ble_eq_true rfl) (widest1 _ _ _ _ _ (by k_extra "my len")) ?_; k_whole; intro tkzz h'zz tk'zz F'zz N'zz l1zz; (try simp only [List.nil_append, List.cons_append] at N'zz); clear l1zz; (try dsimp only); (try k_sweep))))
  k_with "my @call ref" => ((k_here; (with_reducible show wpAny _ _ (call (Value.ref 199) [_, _, _] _) _ _ _); k_dflt (refine' Tell.useQ (by k_asm) (by k_asm) (by k_asm) (by k_asm) (by k_asm) (by first | exact rfl | assumption) (by k_extra "my need") (by exact Nat.le_of_ble_eq_true rfl) (by exact Nat.le_of_ble_eq_true rfl) (vector3 _ _ _ _) ?_; k_whole; intro xzz dxzz t1zz t2zz t3zz t4zz t5zz hxzz h'zz tk'zz F'zz N'zz l1zz; (try simp only [List.nil_append, List.cons_append] at N'zz); (have l2zz := difs_of (below2 l1zz).1; have l3zz := difs_of (below2 l1zz).2; clear l1zz; (try simp only [List.nil_append, List.cons_append] at l2zz l3zz); skip); (try dsimp only); (try k_sweep))))
  k_with "my @call ref" => ((k_here; (with_reducible show wpAny _ _ (call (Value.ref 199) [_, _] _) _ _ _); k_dflt (refine' Tell.useQ (by k_asm) (by k_asm) (by k_asm) (by k_asm) (by k_asm) (by first | exact rfl | assumption) (by k_extra "my need") (by exact Nat.le_of_ble_eq_true rfl) (by exact Nat.le_of_ble_eq_true rfl) (vector2 _ _ _) ?_; k_whole; intro xzz dxzz t1zz t2zz t3zz t4zz t5zz hxzz h'zz tk'zz F'zz N'zz l1zz; (try simp only [List.nil_append, List.cons_append] at N'zz); (have l2zz := difs_of (below2 l1zz).1; have l3zz := difs_of (below2 l1zz).2; clear l1zz; (try simp only [List.nil_append, List.cons_append] at l2zz l3zz); skip); (try dsimp only); (try k_sweep))))
  k_with "my @call ref" => ((k_here; (with_reducible show wpAny _ _ (call (Value.ref 439) [_, _] _) _ _ _); k_dflt (refine' Tell.use2 (by k_asm) (by k_asm) (by k_asm) (by (refine' pull1 (by k_asm) (by k_extra "my pull"))) (by k_asm) (by first | exact rfl | assumption) (by (refine mt1 ?_; k_all)) (by exact Nat.le_of_ble_eq_true rfl) (by exact Nat.le_of_ble_eq_true rfl) (plum_ _ _ _ _ _ _ _ (by assumption) (by assumption) (by omega) (by omega)) ?_; k_whole; intro tkzz rzz vs'zz ns'zz n'zz hi'zz hl'zz h0zz h1zz h'zz tk'zz F'zz N'zz l1zz; (try simp only [List.nil_append, List.cons_append] at N'zz); clear l1zz; (try dsimp only); (try k_sweep))))
  k_with "my @call ref" => ((k_here; (with_reducible show wpAny _ _ (call (Value.ref 265) _ _) _ _ _); k_dflt (refine' Tell.useQ (by k_asm) (by k_asm) (by k_asm) (by k_asm) (by k_asm) (by first | exact rfl | assumption) (by k_extra "my need") (by exact Nat.le_of_ble_eq_true rfl) (by exact Nat.le_of_ble_eq_true rfl) (fmt_int _ _ _ _ _ (by omega) (by omega)) ?_; k_whole; intro tkzz h'zz tk'zz F'zz N'zz l1zz; (try simp only [List.nil_append, List.cons_append] at N'zz); clear l1zz; (try dsimp only); (try k_sweep))))
  k_with "my @call ref" => ((k_here; (with_reducible show wpAny _ _ (call (Value.ref 265) _ _) _ _ _); k_dflt (refine' Tell.useQ (by k_asm) (by k_asm) (by k_asm) (by k_asm) (by k_asm) (by first | exact rfl | assumption) (by k_extra "my need") (by exact Nat.le_of_ble_eq_true rfl) (by exact Nat.le_of_ble_eq_true rfl) (fmt_str _ _ _ _ _ (by first | assumption | decide +kernel) (by first | assumption | decide +kernel) (by first | assumption | decide +kernel)) ?_; k_whole; intro tkzz h'zz tk'zz F'zz N'zz l1zz; (try simp only [List.nil_append, List.cons_append] at N'zz); clear l1zz; (try dsimp only); (try k_sweep))))
  k_with "my @call ref" => ((k_here; (with_reducible show wpAny _ _ (call (Value.ref 231) _ _) _ _ _); k_dflt (refine' Tell.useQ (by k_asm) (by k_asm) (by k_asm) (by k_asm) (by k_asm) (by first | exact rfl | assumption) (by k_extra "my need") (by exact Nat.le_of_ble_eq_true rfl) (by exact Nat.le_of_ble_eq_true rfl) (grown_ _ _ _ _ _ (by omega) (by omega) (by k_extra "my len")) ?_; k_whole; intro tkzz h'zz tk'zz F'zz N'zz l1zz; (try simp only [List.nil_append, List.cons_append] at N'zz); clear l1zz; (try dsimp only); (try k_sweep))))
  k_with "my comp" => ((k_here; k_dflt (refine LCg.ListComp_U (F₀ := by k_asm) (by with_unfolding_all rfl) (by decide) (by rfl) (by decide) (by rfl) ?_)))
  k_with "my o3c" => (((try simp only [List.cons_append, List.nil_append]); refine off3By (by with_reducible assumption) ?_; k_extra "my o3l"))
  k_with "my offs" => (first | exact True.intro | k_extra "my o3c" | (k_whole; refine And.intro ⟨by k_ne, by k_ne, by k_ne⟩ ?_; k_extra "my offs") | assumption)
  k_with "my list" => (exact News.isList (by k_asm) (by k_mem))
  k_with "my slice" => ((k_here; (with_reducible show wpAny _ _ (subscriptTail _ (PySem.Expr.Slice _ _ none _) (Value.ref _) (Value.ref _)) _ _ _); k_dflt (refine' kms_slice_lit (by k_asm) (by k_asm) (by k_extra "my list") (by kmk_part) (by kmk_part) (by first | exact pick_upto (by omega) | exact pick_run (by omega) (by omega) (by omega)) ?_ (by with_unfolding_all rfl) (by kmk_pure) (by (rw [List.size_toArray, sizeLine_eq]; omega)); intro D'zz h'zz F'zz N'zz l1zz; (try k_lt l1zz); (try k_sweep))))
  k_with "my len list" => ((k_here; (with_reducible show wpAny _ _ (call (Value.builtin "len") [Value.ref _]) _ _ _); k_dflt (refine' kst_len (by k_asm) (by k_mem) (by rfl) (by omega) ?_; k_whole)))
  k_with "my mul list" => ((k_here; (with_reducible show wpAny _ _ (binaryOp Operator.Mult (Value.ref _) (Value.int _ _)) _ _ _); k_dflt (refine' KMa.mul (by k_asm) (by k_asm) (by k_extra "my list") (by omega) (by omega) (by (simp only [List.length_cons, List.length_nil]; omega)) (by first | exact flat1 _ _ | rfl) ?_; k_whole; intro D'zz h'zz F'zz N'zz l1zz; (try k_lt l1zz); (try k_sweep))))
  k_with "my add list" => ((k_here; (with_reducible show wpAny _ _ (binaryOp _ (Value.ref _) (Value.ref _)) _ _ _); k_dflt (refine' kmk_add_lit (by k_asm) (by k_asm) (by k_extra "my list") (by k_extra "my list") (by rfl) ?_ (by (rw [sizeLine_eq]; (try simp only [List.toList_toArray, List.length_take, List.length_append, List.length_replicate, List.length_cons, List.length_nil]); omega)); intro D'zz h'zz F'zz N'zz l1zz; (try k_lt l1zz); (try k_sweep))))
  k_with "my @LPost" => ((dsimp only [LPost]))
  k_with "my tailmem" => (first | assumption | exact List.Mem.head _ | (refine List.Mem.tail _ ?_; k_extra "my tailmem") | (refine List.mem_append.mpr (Or.inl ?_); k_extra "my tailmem") | (refine List.mem_append.mpr (Or.inr ?_); k_extra "my tailmem"))
  k_with "my sub" => (first | exact List.forall_mem_nil _ | (refine List.forall_mem_cons.mpr ⟨by k_extra "my tailmem", ?_⟩; k_extra "my sub") | (intro p9zz h9zz; k_extra "my tailmem"))
  k_with "my off" => (first | exact List.forall_mem_nil _ | (refine List.forall_mem_cons.mpr ⟨by first | assumption | omega, ?_⟩; k_extra "my off") | assumption | exact ne_of_all (by assumption))
  k_with "my kept" => (first | exact List.forall_mem_nil _ | (refine List.forall_mem_cons.mpr ⟨by with_unfolding_all rfl, ?_⟩; k_extra "my kept"))
  k_with "my for" => ((k_here; (rename Fr _ _ _ _ => lF'zz); (with_unfolding_all refine' For_invVF lF'zz (by exact rfl) (by exact rfl) ?_; k_whole)))
  k_with "my @eval ListComp" => ((k_extra "my comp"))
  k_with "my @CompSrc" => ((refine to_held ?_))
  k_with "my @CompEnd" => ((refine to_held ?_))
  k_with "my @pyIter ref" => ((k_of "item" => refine to_held ?_))
  k_with "my @call ref" => ((k_here; (with_reducible show wpAny _ _ (call (Value.ref 271) _ _) _ _ _); k_dflt (refine' Tell.useQ (by k_asm) (by k_asm) (by k_asm) (by k_asm) (by k_asm) (by first | exact rfl | assumption) (by k_extra "my need") (by exact Nat.le_of_ble_eq_true rfl) (by exact Nat.le_of_ble_eq_true rfl) (items_str _ _ _ _ _ _ _ _ _ _ _ _ _ _ _ (by assumption) (by assumption) (by first | assumption | omega)) ?_; k_whole; intro bzz uszz huszz h'zz tk'zz F'zz N'zz l1zz; (try simp only [List.nil_append, List.cons_append] at N'zz); (have l2zz := difs_of (below1 l1zz); clear l1zz; (try simp only [List.nil_append, List.cons_append] at l2zz)); (try dsimp only); (try k_sweep))))
  k_with "my @call ref" => ((k_here; (with_reducible show wpAny _ _ (call (Value.ref 271) _ _) _ _ _); k_dflt (refine' Tell.useQ (by k_asm) (by k_asm) (by k_asm) (by k_asm) (by k_asm) (by first | exact rfl | assumption) (by k_extra "my need") (by exact Nat.le_of_ble_eq_true rfl) (by exact Nat.le_of_ble_eq_true rfl) (items_int _ _ _ _ _ _ _ _ _ _ _ _ _ _ _ (by assumption) (by assumption) (by assumption) (by first | assumption | omega)) ?_; k_whole; intro bzz uszz huszz h'zz tk'zz F'zz N'zz l1zz; (try simp only [List.nil_append, List.cons_append] at N'zz); (have l2zz := difs_of (below1 l1zz); clear l1zz; (try simp only [List.nil_append, List.cons_append] at l2zz)); (try dsimp only); (try k_sweep))))
  k_with "my @subscriptTail Name Slice ref ref" => ((k_extra "my slice"))
  k_with "my @call builtin:len" => ((k_extra "my len list"))
  k_with "my @binaryOp Mult ref int" => ((k_extra "my mul list"))
  k_with "my @binaryOp Add ref ref" => ((k_extra "my add list"))
  k_with "my @call ref" => ((k_here; (with_reducible show wpAny _ _ (call (Value.ref 412) _ _) _ _ _); k_dflt (refine' Tell.useQ (by k_asm) (by k_asm) (by k_asm) (by k_asm) (by k_asm) (by first | exact rfl | assumption) (by k_extra "my need") (by exact Nat.le_of_ble_eq_true rfl) (by exact Nat.le_of_ble_eq_true rfl) (filled_int _ _ _ _ _ _ _ _ _ _ _ _ _ _ _ _ (by first | assumption | omega) (by assumption) (by first | assumption | ((try simp only [List.length_map]); omega))) ?_; k_whole; intro bzz us'zz n'zz huszz h'zz tk'zz F'zz N'zz l1zz; (try simp only [List.nil_append, List.cons_append] at N'zz); (have l2zz := difs_of (below1 l1zz); clear l1zz; (try simp only [List.nil_append, List.cons_append] at l2zz)); (try dsimp only); (try k_sweep))))
  k_with "my @call ref" => ((k_here; (with_reducible show wpAny _ _ (call (Value.ref 412) _ _) _ _ _); k_dflt (refine' Tell.useQ (by k_asm) (by k_asm) (by k_asm) (by k_asm) (by k_asm) (by first | exact rfl | assumption) (by k_extra "my need") (by exact Nat.le_of_ble_eq_true rfl) (by exact Nat.le_of_ble_eq_true rfl) (filled_str _ _ _ _ _ _ _ _ _ _ _ _ _ _ _ _ (by first | assumption | omega) (by assumption) (by first | assumption | ((try simp only [List.length_map]); omega))) ?_; k_whole; intro bzz us'zz n'zz huszz h'zz tk'zz F'zz N'zz l1zz; (try simp only [List.nil_append, List.cons_append] at N'zz); (have l2zz := difs_of (below1 l1zz); clear l1zz; (try simp only [List.nil_append, List.cons_append] at l2zz)); (try dsimp only); (try k_sweep))))
  k_with "my item" => ((k_here; (with_reducible show wpAny _ _ (subscriptTail _ _ (Value.ref _) (Value.int _ _)) _ _ _); k_dflt (refine' item_lit (by k_asm) (by k_mem) (by first | decide | omega) (by first | decide | omega) (by first | exact rfl | assumption) ?_ (by with_unfolding_all rfl); k_whole)))
  k_with "my @subscriptTail Name Constant ref int" => ((k_extra "my item"))
  k_with "my @call type:str" => ((k_here; (with_reducible show wpAny _ _ (call (Value.type "str") [Value.int _ _]) _ _ _); refine str_small (by omega) (by omega) ?_))
  k_with "my @GrowPost" => ((dsimp only [GrowPost]))
  k_with "my @getMethod ref" => ((k_here; (with_reducible show wpAny _ _ (getMethod (Value.ref _) (Str.ofString "get") _) _ _ _); k_dflt (refine kdg_method (knd := PySem.strKind _ _) (by k_asm) (by k_mem) (by k_asm) ?_)))
  k_with "my @call builtin:dict.get" => ((k_here; k_dflt (first | refine kdg_get1 (knd := PySem.strKind _ _) (by k_asm) (by k_mem) (by k_asm) (by k_asm) (strKind_is _ _ _ _) (some _) (by rfl) ?_ | refine kdg_get1 (knd := PySem.strKind _ _) (by k_asm) (by k_mem) (by k_asm) (by k_asm) (strKind_is _ _ _ _) none (by rfl) ?_); (try dsimp only [Option.getD])))
  k_with "my @compareOp NotIn str ref" => ((k_here; k_dflt (first | refine kdg_notin (knd := PySem.strKind _ _) (by k_asm) (by k_mem) (by k_asm) (by k_asm) (strKind_is _ _ _ _) true (by rfl) ?_ | refine kdg_notin (knd := PySem.strKind _ _) (by k_asm) (by k_mem) (by k_asm) (by k_asm) (strKind_is _ _ _ _) false (by rfl) ?_); (try dsimp only [Bool.not_true, Bool.not_false])))
  k_with "my @call builtin:list.append" => ((k_here; (with_reducible show wpAny _ _ (call (Value.builtin "list.append") [Value.ref _, _]) _ _ _); k_dflt (refine' append_K (by k_asm) (by k_asm) (by k_upd) ?_ (by (rw [List.size_toArray, sizeLine_eq]; (try simp only [List.length_append, List.length_map, List.length_cons, List.length_nil]); omega)); k_whole; intro h'zz F'zz N'zz; (try simp only [List.toList_toArray] at N'zz); (try k_sweep))))
  k_with "my @getMethod ref" => ((k_here; (with_reducible show wpAny _ _ (getMethod (Value.ref _) (Str.ofString "get") _) _ _ _); k_dflt (refine kdg_method (knd := PySem.strKind _ _) (by k_asm) (by k_mem) (by k_asm) ?_)))
  k_with "my @call builtin:dict.get" => ((k_here; k_dflt (first | refine kdg_get1 (knd := PySem.strKind _ _) (by k_asm) (by k_mem) (by k_asm) (by k_asm) (strKind_is _ _ _ _) (some _) (by rfl) ?_ | refine kdg_get1 (knd := PySem.strKind _ _) (by k_asm) (by k_mem) (by k_asm) (by k_asm) (strKind_is _ _ _ _) none (by rfl) ?_); (try dsimp only [Option.getD])))
  k_with "my tailm" => (first | assumption | exact List.Mem.head _ | (refine List.Mem.tail _ ?_; k_extra "my tailm"))
  k_with "my o3b" => (((try simp only [List.cons_append, List.nil_append]); refine off3By (by with_reducible assumption) ?_; k_extra "my o3l"))
  k_with "my cend" => ((k_dflt (refine' cend (by k_asm) (by k_asm) (by k_extra "my pull") (by k_extra "my pull") (by k_extra "my pull") (by first | assumption | (k_whole; first | k_extra "my o3b" | (refine And.intro ⟨by k_ne, by k_ne, by k_ne⟩ ?_; k_extra "my o3b") | (refine And.intro ⟨by k_ne, by k_ne, by k_ne⟩ ?_; assumption) | (refine And.intro ⟨by k_ne, by k_ne, by k_ne⟩ ?_; refine And.intro ⟨by k_ne, by k_ne, by k_ne⟩ ?_; assumption))) (by first | exact True.intro | exact Or.inl (Or.inl (by assumption)) | exact Or.inl (by assumption) | exact Or.inr ⟨_, by k_mem, rfl, _, rfl⟩) ?_)))
  k_with "my @CompEnd" => ((k_extra "my cend"))
  k_with "my @call ref" => ((k_here; (with_reducible show wpAny _ _ (call (Value.ref 45) _ _) _ _ _); k_dflt (refine' Tell.useR (by k_asm) (by k_asm) (by k_asm) (by k_asm) (by k_asm) (by first | exact rfl | assumption) (dimn_ _ _ _ _ _ _ _ _ _ _ _ _ _ _ _ _ _ _ _ _ _ _ _ _ _ _ _ _ _ _ _ _ _ _ _ _ _ _ _ _ _ _ _ _ _ ?_ ?_ ?_ (by assumption)) (by k_extra "my need") (by exact Nat.le_of_ble_eq_true rfl) (by exact Nat.le_of_ble_eq_true rfl) ?_; (try any_goals (refine id_prop ?_; first | first | assumption | omega)); (try any_goals (refine id_prop ?_; first | first | assumption | omega)); k_whole; intro bzz c1zz c2zz k1zz k2zz h'zz tk'zz F'zz N'zz l1zz; (try simp only [List.nil_append, List.cons_append] at N'zz); (have l2zz := difs_of (below2 l1zz).1; have l3zz := difs_of (below2 l1zz).2; have l4zz := difs_of (below3 l1zz); clear l1zz; (try simp only [List.nil_append, List.cons_append] at l2zz l3zz l4zz)); (try dsimp only); (try k_sweep))))
  k_with "my @subscriptTail Name Name ref int" => ((k_extra "my item"))
  k_with "my @pyIter ref" => ((k_of "place" => refine to_held ?_))
  k_with "my @eval IfExp" => (((fail_if_success (rename Free => hfreezz)); (with_reducible show wpAny _ _ (eval (PySem.Expr.IfExp (PySem.Expr.Compare _ _ _ _) _ _ _) _) _ _ _); refine to_held ?_))
  k_with "my @eval IfExp" => (((fail_if_success (rename Free => hfreezz)); (with_reducible show wpAny _ _ (eval (PySem.Expr.IfExp (PySem.Expr.BoolOp _ _ _) _ _ _) _) _ _ _); refine to_held ?_))
  trivial
theorem off_Lj : True := by
  w_top off
  trivial
-- part Lj
theorem ln_Lj1 : True := by
  k_with "my @FinE" => (((unfold LCg.FinE); intro D'zz h'zz tk'zz F'zz N'zz o1'zz; (have l2zz := difs_of o1'zz; clear o1'zz; (try simp only [List.nil_append, List.cons_append] at l2zz)); (try simp only [List.nil_append, List.cons_append] at N'zz); (try dsimp only)))
  k_with "my @FinA" => (((unfold LCg.FinA); intro D'zz h'zz tk'zz F'zz N'zz o1'zz; (have l2zz := difs_of o1'zz; clear o1'zz; (try simp only [List.nil_append, List.cons_append] at l2zz)); (try simp only [List.nil_append, List.cons_append] at N'zz); (try dsimp only)))
  k_with "my slice2" => ((k_here; (with_reducible show wpAny _ _ (subscriptTail _ (PySem.Expr.Slice _ _ none _) (Value.ref _) (Value.ref _)) _ _ _); k_dflt (refine' kms_slice_lit (by k_asm) (by k_asm) (by k_extra "my list") (by kmk_part) (by kmk_part) (by first | exact pick_upto (by omega) | exact pick_run (by omega) (by omega) (by omega)) ?_ (by with_unfolding_all rfl) (by kmk_pure) (by (rw [List.size_toArray, sizeLine_eq]; (try simp only [List.toList_toArray, List.length_take, List.length_append, List.length_map, List.length_replicate, List.length_cons, List.length_nil]); omega)); intro D'zz h'zz F'zz N'zz l1zz; (try k_lt l1zz); (try k_sweep))))
  k_with "my @subscriptTail Name Slice ref ref" => ((k_extra "my slice2"))
  trivial
theorem small_bd {b : Int} (h0 : 0 ≤ b) (h1 : b ≤ 10) : Builtin.Range.small 0 b 1 = true ∧ Builtin.Range.rangeSize 0 b 1 = (b.toNat : Int) := by
  obtain ⟨n, rfl⟩ := Int.eq_ofNat_of_zero_le h0
  exact (by decide +kernel : ∀ n : Nat, n ≤ 10 → Builtin.Range.small 0 (n : Int) 1 = true ∧ Builtin.Range.rangeSize 0 (n : Int) 1 = ((n : Int).toNat : Int)) n (Int.ofNat_le.mp h1)
section
variable {prog : Program} {w : World} {A : Around} {h₀ : Heap} {L : Addr} {m : Str → Option Value} {env : Env} {elt : Expr} {x : Str} {scope : Scope} {cl : List (Str × Addr)}
theorem src_range {Fin : Shared → List Value → Led → Prop} {r : Addr} {b : Int} {t u v : Tok} {news : Led} {s₁ : Shared}
    (hh : A.handled = none) (F : Fr h₀ L s₁.heap m) (N : News h₀ L s₁.heap news) (hr : IsRange s₁.heap r 0 b 1 t u v) (h0 : 0 ≤ b) (h1 : b ≤ 10)
    (h : ∀ g, LCg.CompRest prog w A h₀ L m env elt x scope cl { s₁ with heap := g } (fun _ => True) (fun i v => ∃ t, v = .int (0 + (i : Int)) t) (Fin { s₁ with heap := g }) b.toNat 0 [] news) :
    LCg.CompSrc prog w A h₀ L m env elt x scope cl Fin (.ref r) s₁ :=
  LCg.CompSrc.range hh F N hr (small_bd h0 h1).1 (small_bd h0 h1).2 (by rw [sizeLine_eq]; omega) h
variable {s : Shared} {S : Led → Prop} {Pv : Nat → Value → Prop} {Fin : List Value → Led → Prop}
theorem comp_plum {α : Type} {n : Nat} {tr : Addr} {rest : Led} {vs0 : List Value} {ns0 : List Int} {n0 : Nat} (G : List Value → List α → Prop) (El : Value → α → Prop) (B : α → Prop) (hG0 : G [] []) (hGs : ∀ ys zs y z, G ys zs → El y z → G (ys ++ [y]) (zs ++ [z]))
    (hi0 : IntsAre vs0 ns0) (hl0 : ns0.length ≤ 50)
    (turn : ∀ i ys v vs' ns' n' I oI C oC D m₂ h tk (E' : Value → Shared → Prop), i < n → Pv i v → IntsAre vs' ns' → ns'.length ≤ 50 → LCg.NsObj oC m₂ → m₂ x = some v → Fr h₀ L h m → News h₀ L h ((I, oI) :: (C, oC) :: (D, LCg.lst ys) :: (tr, lst vs' n') :: rest) → LCg.Off3 I C D ((tr, lst vs' n') :: rest) → ((@Ne Nat I C) ∧ (@Ne Nat I D) ∧ (@Ne Nat C D)) →
      wpAny (model prog w) A (eval elt (compEnvC scope cl C env)) (LCg.CompEnd h₀ L m { s with heap := h, toks := tk } I oI C oC D (LCg.lst ys) S (fun y nw' => ∃ z vs2 ns2 n2, El y z ∧ B z ∧ IntsAre vs2 ns2 ∧ ns2.length ≤ 50 ∧ nw' = (tr, lst vs2 n2) :: rest)) E' { s with heap := h, toks := tk })
    (fin : ∀ ys zs vs' ns' n', G ys zs → zs.length = n → (∀ z ∈ zs, B z) → IntsAre vs' ns' → ns'.length ≤ 50 → Fin ys ((tr, lst vs' n') :: rest)) : LCg.CompRest prog w A h₀ L m env elt x scope cl s S Pv Fin n 0 [] ((tr, lst vs0 n0) :: rest) := by
  refine comp_all (fun i ys nw => ∃ zs vs' ns' n', G ys zs ∧ zs.length = i ∧ (∀ z ∈ zs, B z) ∧ IntsAre vs' ns' ∧ ns'.length ≤ 50 ∧ nw = (tr, lst vs' n') :: rest) ⟨[], vs0, ns0, n0, hG0, rfl, (fun _ h => nomatch h), hi0, hl0, rfl⟩ ?_ ?_
  · rintro i ys nw v I oI C oC D m₂ h tk E' hi hv ⟨zs, vs', ns', n', hG, hz, hB, hi', hl', rfl⟩ hC hx F N off ne
    refine wpAny_mono (turn i ys v vs' ns' n' I oI C oC D m₂ h tk E' hi hv hi' hl' hC hx F N off ne) (fun y s₂ hq => ?_) fun _ _ e => e
    obtain ⟨h', tk', nw', e, F', N', off', hS, z, vs2, ns2, n2, hE, hBz, h1, h2, rfl⟩ := hq
    refine ⟨h', tk', _, e, F', N', off', hS, zs ++ [z], vs2, ns2, n2, hGs _ _ _ _ hG hE, by simp [hz], ?_, h1, h2, rfl⟩
    intro q hq
    rcases List.mem_append.mp hq with hq | hq
    · exact hB q hq
    · rw [List.mem_singleton.mp hq]; exact hBz
  · rintro ys nw ⟨zs, vs', ns', n', hG, hz, hB, hi', hl', rfl⟩
    exact fin ys zs vs' ns' n' hG hz hB hi' hl'
end
theorem ints_snoc {z : Int} {t : Tok} : ∀ {vs : List Value} {ys : List Int}, IntsAre vs ys → IntsAre (vs ++ [.int z t]) (ys ++ [z])
  | _, _, .nil => .cons z t .nil
  | _, _, .cons y u r => .cons y u (ints_snoc r)
theorem many_bd (r : Int) (k : Nat) (hr : r = 1 ∨ r = 2) : 0 ≤ (if r + ([0, 0, 1, -1] : List Int).getD k 0 > 0 then r + ([0, 0, 1, -1] : List Int).getD k 0 else 0) ∧ (if r + ([0, 0, 1, -1] : List Int).getD k 0 > 0 then r + ([0, 0, 1, -1] : List Int).getD k 0 else 0) ≤ 3 := by
  have h : ([0, 0, 1, -1] : List Int).getD k 0 = 0 ∨ ([0, 0, 1, -1] : List Int).getD k 0 = 1 ∨ ([0, 0, 1, -1] : List Int).getD k 0 = -1 := by
    match k with
    | 0 => exact .inl rfl
    | 1 => exact .inl rfl
    | 2 => exact .inr (.inl rfl)
    | 3 => exact .inr (.inr rfl)
    | k + 4 => exact .inl rfl
  generalize ([0, 0, 1, -1] : List Int).getD k 0 = d at *
  constructor <;> split <;> omega
theorem take_pad {α : Type} (xs : List α) (y : α) (r : Nat) : (xs ++ List.replicate r y).take r = xs.take r ++ List.replicate (r - xs.length) y := by
  rw [List.take_append, List.take_replicate]
  congr 2
  omega
theorem strs_cong {us : List Value} {xs ys : List Str} (h : StrsAre us xs) (e : xs = ys) : StrsAre us ys := e ▸ h
theorem strs_told {us : List Value} {xs : List Str} {r : Nat} {y : Str} {t : Tok} (h : StrsAre us xs) : StrsAre (List.take r (us ++ List.replicate r (.str y t))) (xs.take r ++ List.replicate (r - xs.length) y) := by
  rw [← take_pad]
  exact (h.append' (strs_rep _ _ _)).take' _
theorem rc_bd {r c : Int} (hr : r = 1 ∨ r = 2) (h0 : 0 ≤ c) (h1 : c < 2) : 0 ≤ r * (1 + c) ∧ r * (1 + c) ≤ 10 := by
  rcases hr with rfl | rfl <;> omega
theorem abc_clean {r : Int} (h0 : 0 ≤ r) (h1 : r < 3) : Clean (Txt.slice (Str.ofString "abc") none (some (1 + r))) := by
  have : r = 0 ∨ r = 1 ∨ r = 2 := by omega
  rcases this with rfl | rfl | rfl <;> (refine ⟨?_, ?_, ?_, ?_⟩ <;> decide +kernel)
def Shows (w : World) (x : Addr) (r : Int) (name : Str) (need : Led) (pcs : List (Str × List Str)) : Prop :=
  ∀ tn t7 tr : Tok, Tell 600 900 w 405 [.ref x, .str name tn, .int 7 t7, .int r tr] [] need [] (fun R => ∀ b pvs n' g, PiecesIn g pvs pcs → LCg.Off1 b g → R (.ref b) [] ((b, lst pvs n') :: g))
theorem shows_int (w : World) (x dx l : Addr) (vs : List Value) (ns : List Int) (name : Str) (t t1 t2 t3 t4 t5 : Tok) (n : Nat) (r : Int) (hr : r = 1 ∨ r = 2) (hi : IntsAre vs ns) (h0 : ∀ k ∈ ns, -100 ≤ k) (h1 : ∀ k ∈ ns, k ≤ 200) (hl : ns.length ≤ 10) :
  Shows w x r name [(x, instObj 199 dx), (dx, vecD w.params t1 t2 t3 t4 t5 (.str (Str.ofString "integer") t) (.ref l) .none), (l, lst vs n)] [(name, ((ns.map fun k => Str.ofString (toString k)).take r.toNat ++ List.replicate (r.toNat - ns.length) (Str.ofString "NA")))] :=
  fun tn t7 tr => fc_int w x dx l vs ns name tn tr t t7 t1 t2 t3 t4 t5 n r hr hi h0 h1 hl
theorem shows_str (w : World) (x dx l : Addr) (vs : List Value) (xs : List Str) (name : Str) (t t1 t2 t3 t4 t5 : Tok) (n : Nat) (r : Int) (hr : r = 1 ∨ r = 2) (hi : StrsAre vs xs) (hc : ∀ p ∈ xs, Clean p) (hl : xs.length ≤ 10) :
  Shows w x r name [(x, instObj 199 dx), (dx, vecD w.params t1 t2 t3 t4 t5 (.str (Str.ofString "character") t) (.ref l) .none), (l, lst vs n)] [(name, (xs.take r.toNat ++ List.replicate (r.toNat - xs.length) (Str.ofString "<NA>")))] :=
  fun tn t7 tr => fc_str w x dx l vs xs name tn tr t t7 t1 t2 t3 t4 t5 n r hr hi hc hl
theorem shows_mat (w : World) (x dx l dd xd dxd ld : Addr) (od : Obj) (vs : List Value) (ns : List Int) (name : Str) (t t1 t2 t3 t4 t5 u1 u2 u3 u4 u5 u6 u7 u8 u9 : Tok) (n nl : Nat) (r c : Int) (hr : r = 1 ∨ r = 2) (hc : Hid (c = 1 ∨ c = 2)) (hi : IntsAre vs ns) (h0 : ∀ k ∈ ns, -100 ≤ k) (h1 : ∀ k ∈ ns, k ≤ 200) (hl : Hid ((ns.length : Int) = r * c))
  (hnm : name.length ≤ 10) (hlo : (dd == sysModules) = false) (hd : Obj.IsDictOf (PySem.strKind PySem.Challenge.rw_qd0173_01.row.prog w) od [(Str.ofString "dim", Value.ref xd)]) :
  Shows w x r name [(x, instObj 199 dx), (dx, vecD w.params t1 t2 t3 t4 t5 (.str (Str.ofString "integer") t) (.ref l) (.ref dd)), (l, lst vs n), (dd, od), (xd, instObj 199 dxd), (dxd, vecD w.params u2 u3 u4 u5 u6 (.str (Str.ofString "integer") u7) (.ref ld) .none), (ld, lst [.int r u8, .int c u9] nl)] (matPcs name ns r.toNat c.toNat (fun i => Str.ofString (toString (0 + (i : Int) + 1)))) :=
  fun tn t7 tr => fc_matj w x dx l dd xd dxd ld od vs ns (fun i => Str.ofString (toString (0 + (i : Int) + 1))) [] [] name tn tr t t7 t1 t2 t3 t4 t5 u1 u2 u3 u4 u5 u6 u7 u8 u9 n nl r c hr hc hi h0 h1 hl hnm (fun i hi => (by have hc2 : c = 1 ∨ c = 2 := hc; have h2 : i < 2 := (mat_facts hr hc2 hl hi).1; rcases two_of h2 with rfl | rfl <;> decide +kernel)) hlo hd (.inl ⟨rfl, rfl, rfl⟩)
theorem shows_matn (w : World) (x dx l dd xd dxd ld nd dnd nl a1 d1 l1 a2 d2 l2 : Addr) (od : Obj) (vs rv hv : List Value) (ns : List Int) (hs : Nat → Str) (name : Str) (t t1 t2 t3 t4 t5 u1 u2 u3 u4 u5 u6 u7 u8 u9 v1 v2 v3 v4 v5 v6 w1 w2 w3 w4 w5 w6 z1 z2 z3 z4 z5 z6 : Tok) (n nl' nn' n1 n2 : Nat) (r c : Int) (hr : r = 1 ∨ r = 2) (hc : Hid (c = 1 ∨ c = 2)) (hi : IntsAre vs ns) (h0 : ∀ k ∈ ns, -100 ≤ k) (h1 : ∀ k ∈ ns, k ≤ 200) (hl : Hid ((ns.length : Int) = r * c))
  (hnm : name.length ≤ 10) (hrv : rv.length ≤ 10) (hhv : hv.length ≤ 10) (hhs : ∀ i < c.toNat, (∃ t, hv[(0 + (i : Int)).toNat]? = some (.str (hs i) t)) ∧ (hs i).length ≤ 10) (hlo : (dd == sysModules) = false) (hd : Obj.IsDictOf (PySem.strKind PySem.Challenge.rw_qd0173_01.row.prog w) od [(Str.ofString "dim", Value.ref xd), (Str.ofString "dimnames", Value.ref nd)]) :
  Shows w x r name [(x, instObj 199 dx), (dx, vecD w.params t1 t2 t3 t4 t5 (.str (Str.ofString "integer") t) (.ref l) (.ref dd)), (l, lst vs n), (dd, od), (xd, instObj 199 dxd), (dxd, vecD w.params u2 u3 u4 u5 u6 (.str (Str.ofString "integer") u7) (.ref ld) .none), (ld, lst [.int r u8, .int c u9] nl'),
      (nd, instObj 199 dnd), (dnd, vecD w.params v1 v2 v3 v4 v5 (.str (Str.ofString "list") v6) (.ref nl) .none), (nl, lst [.ref a1, .ref a2] nn'),
     (a1, instObj 199 d1), (d1, vecD w.params w1 w2 w3 w4 w5 (.str (Str.ofString "character") w6) (.ref l1) .none), (a2, instObj 199 d2), (d2, vecD w.params z1 z2 z3 z4 z5 (.str (Str.ofString "character") z6) (.ref l2) .none), (l1, lst rv n1), (l2, lst hv n2)] (matPcs name ns r.toNat c.toNat hs) :=
  fun tn t7 tr => fc_matj w x dx l dd xd dxd ld od vs ns hs _ _ name tn tr t t7 t1 t2 t3 t4 t5 u1 u2 u3 u4 u5 u6 u7 u8 u9 n nl' r c hr hc hi h0 h1 hl hnm (fun i hi => (hhs i hi).2) hlo hd (.inr ⟨nd, dnd, nl, a1, d1, l1, a2, d2, l2, v1, v2, v3, v4, v5, v6, w1, w2, w3, w4, w5, w6, z1, z2, z3, z4, z5, z6, nn', n1, n2, rv, hv, rfl, rfl, hrv, hhv, fun i hi => (hhs i hi).1⟩)
theorem off_Lk : True := by
  w_top off
  trivial
-- part Lk
theorem off_mid {D : Addr} {ex g l : Led} (h : LCg.Off1 D (ex ++ (g ++ l))) : LCg.Off1 D (ex ++ l) := off_app (off_left h) (off_right (off_right h))
theorem off_dropg {D : Addr} {q : Addr × Obj} (g : Led) {l : Led} (h : LCg.Off1 D (q :: (g ++ l))) : LCg.Off1 D (q :: l) := ⟨h.1, off_right h.2⟩
def PcsRest (ex base : Led) (ys : List Value) (pcs : List (Str × List Str)) (y : Value) (nw : Led) : Prop :=
  ∃ g, nw = ex ++ (g ++ base) ∧ PiecesIn g (ys ++ [y]) pcs ∧ ∀ q ∈ g, LCg.Off1 q.1 (ex ++ base)
def pcsTo (hd : Nat → Str) (tx : Nat → List Str) (i : Nat) : List (Str × List Str) := (List.range i).map fun j => (hd j, tx j)
section
variable {prog : Program} {w : World} {A : Around} {h₀ : Heap} {L : Addr} {m : Str → Option Value} {env : Env} {elt : Expr} {x : Str} {scope : Scope} {cl : List (Str × Addr)} {s : Shared} {S : Led → Prop} {Pv : Nat → Value → Prop} {Fin : List Value → Led → Prop} {ex base : Led}
theorem comp_pcs {n : Nat} (hd : Nat → Str) (tx : Nat → List Str)
    (turn : ∀ i ys g v I oI C oC D m₂ h tk (E' : Value → Shared → Prop), i < n → Pv i v → PiecesIn g ys (pcsTo hd tx i) → (∀ q ∈ g, LCg.Off1 q.1 (ex ++ base)) → LCg.NsObj oC m₂ → m₂ x = some v → Fr h₀ L h m → News h₀ L h ((I, oI) :: (C, oC) :: (D, LCg.lst ys) :: (ex ++ (g ++ base))) → LCg.Off3 I C D (ex ++ (g ++ base)) → ((@Ne Nat I C) ∧ (@Ne Nat I D) ∧ (@Ne Nat C D)) →
      wpAny (model prog w) A (eval elt (compEnvC scope cl C env)) (LCg.CompEnd h₀ L m { s with heap := h, toks := tk } I oI C oC D (LCg.lst ys) S (PcsRest ex base ys (pcsTo hd tx i ++ [(hd i, tx i)]))) E' { s with heap := h, toks := tk })
    (fin : ∀ ys g, PiecesIn g ys (pcsTo hd tx n) → (∀ q ∈ g, LCg.Off1 q.1 (ex ++ base)) → Fin ys (ex ++ (g ++ base))) : LCg.CompRest prog w A h₀ L m env elt x scope cl s S Pv Fin n 0 [] (ex ++ base) := by
  refine comp_all (fun i ys nw => ∃ g, nw = ex ++ (g ++ base) ∧ PiecesIn g ys (pcsTo hd tx i) ∧ ∀ q ∈ g, LCg.Off1 q.1 (ex ++ base)) ⟨[], rfl, .nil, fun _ h => nomatch h⟩ ?_ ?_
  · rintro i ys nw v I oI C oC D m₂ h tk E' hi hv ⟨g, rfl, hP, hg⟩ hC hx F N off ne
    refine wpAny_mono (turn i ys g v I oI C oC D m₂ h tk E' hi hv hP hg hC hx F N off ne) (fun y s₂ hq => ?_) fun _ _ e => e
    obtain ⟨h', tk', nw', e, F', N', off', hS, hr⟩ := hq
    have e2 : pcsTo hd tx (i + 1) = pcsTo hd tx i ++ [(hd i, tx i)] := by simp [pcsTo, List.range_succ]
    refine ⟨h', tk', nw', e, F', N', off', hS, ?_⟩
    rw [e2]
    exact hr
  · rintro ys nw ⟨g, rfl, hP, hg⟩
    exact fin ys g hP hg
theorem off3_left {I C D : Addr} : ∀ {l l' : Led}, LCg.Off3 I C D (l ++ l') → LCg.Off3 I C D l
  | [], _, _ => trivial
  | _ :: _, _, h => ⟨h.1, off3_left h.2⟩
theorem off3_right {I C D : Addr} : ∀ {l l' : Led}, LCg.Off3 I C D (l ++ l') → LCg.Off3 I C D l'
  | [], _, h => h
  | _ :: _, _, h => off3_right h.2
theorem off3_app {I C D : Addr} : ∀ {l l' : Led}, LCg.Off3 I C D l → LCg.Off3 I C D l' → LCg.Off3 I C D (l ++ l')
  | [], _, _, h => h
  | _ :: _, _, h, h' => ⟨h.1, off3_app h.2 h'⟩
theorem pcs_end {I C D : Addr} {s₁ : Shared} {oI oC oD : Obj} {h' : Heap} {tk : Nat} {all g : Led} {ys us : List Value} {pcs : List (Str × List Str)} {hd : Str} {xs : List Str} {tp l : Addr} {t : Tok} {k n : Nat}
    (F : Fr h₀ L h' m) (N : News h₀ L h' all) (sub : ∀ p ∈ (I, oI) :: (C, oC) :: (D, oD) :: (tp, tup [.str hd t, .ref l] k) :: (l, lst us n) :: (ex ++ (g ++ base)), p ∈ all) (off : LCg.Off3 I C D (ex ++ (g ++ base))) (ot : ((@Ne Nat tp I) ∧ (@Ne Nat tp C) ∧ (@Ne Nat tp D))) (ol : ((@Ne Nat l I) ∧ (@Ne Nat l C) ∧ (@Ne Nat l D))) (hS : ∀ z, S z)
    (hP : PiecesIn g ys pcs) (hst : StrsAre us xs) (hg : ∀ q ∈ g, LCg.Off1 q.1 (ex ++ base)) (htp : LCg.Off1 tp (ex ++ (g ++ base))) (hl : LCg.Off1 l (ex ++ (g ++ base))) :
    LCg.CompEnd h₀ L m s₁ I oI C oC D oD S (PcsRest ex base ys (pcs ++ [(hd, xs)])) (.ref tp) { s₁ with heap := h', toks := tk } := by
  refine LCg.CompEnd.intro F N (ex ++ (((tp, tup [.str hd t, .ref l] k) :: (l, lst us n) :: g) ++ base)) ?_ ?_ (hS _) ⟨(tp, tup [.str hd t, .ref l] k) :: (l, lst us n) :: g, rfl, (hP.mono fun p hp => .tail _ (.tail _ hp)).append (.cons ⟨_, _, _, _, _, _, rfl, .head _, .tail _ (.head _), hst⟩ .nil), aboveC (off_mid htp) (aboveC (off_mid hl) hg)⟩
  · intro p hp
    refine sub p ?_
    simp only [List.mem_cons, List.mem_append, List.cons_append] at hp ⊢
    rcases hp with h | h | h | h | h | h | h | h
    · exact .inl h
    · exact .inr (.inl h)
    · exact .inr (.inr (.inl h))
    · exact .inr (.inr (.inr (.inr (.inr (.inl h)))))
    · exact .inr (.inr (.inr (.inl h)))
    · exact .inr (.inr (.inr (.inr (.inl h))))
    · exact .inr (.inr (.inr (.inr (.inr (.inr (.inl h))))))
    · exact .inr (.inr (.inr (.inr (.inr (.inr (.inr h))))))
  · exact off3_app (off3_left off) ⟨ot, ol, off3_right off⟩
end
theorem difs3 {I C D : Addr} : ∀ {l : Led}, LCg.Off3 I C D l → Difs I l ∧ Difs C l ∧ Difs D l
  | [], _ => ⟨trivial, trivial, trivial⟩
  | _ :: _, h => ⟨⟨h.1.1, (difs3 h.2).1⟩, ⟨h.1.2.1, (difs3 h.2).2.1⟩, ⟨h.1.2.2, (difs3 h.2).2.2⟩⟩
theorem difs_ne3 {I C D : Addr} (h : (@Ne Nat I C) ∧ (@Ne Nat I D) ∧ (@Ne Nat C D)) : Dif I C ∧ Dif I D ∧ Dif C D := h
local macro_rules | `(tactic| k_ne) => `(tactic| k_extra "my ne")
theorem ln_Lk1 : True := by
  k_with "my difs" => (((rename Difs _ _ => q9zz); (simp only [List.nil_append, List.cons_append] at q9zz); (repeat (obtain ⟨_, q9zz⟩ := q9zz))))
  k_with "my subg" => (first | exact List.forall_mem_nil _ | (refine List.forall_mem_cons.mpr ⟨by k_extra "my tailmem", ?_⟩; k_extra "my subg") | (refine List.forall_mem_append.mpr ⟨?_, ?_⟩ <;> k_extra "my subg") | (intro p9zz h9zz; k_extra "my tailmem"))
  trivial
theorem off_drop {D : Addr} {l l' : Led} (h : LCg.Off1 D l) (hs : ∀ p ∈ l', p ∈ l) : LCg.Off1 D l' := off_of fun p hp => off_mem h p (hs p hp)
def Fine (r : Int) (pcs : List (Str × List Str)) : Prop := 1 ≤ pcs.length ∧ pcs.length ≤ 2 ∧ ∀ pc ∈ pcs, pc.1.length ≤ 10 ∧ pc.2.length = r.toNat ∧ ∀ z ∈ pc.2, z.length ≤ 10
theorem fine_mat {name : Str} {ns : List Int} {r c : Int} {hs : Nat → Str} (hr : r = 1 ∨ r = 2) (hc : c = 1 ∨ c = 2) (hl : (ns.length : Int) = r * c) (hB : ∀ z ∈ ns, 0 ≤ z ∧ z < 60) (hn : name.length ≤ 4) (hh : ∀ i < c.toNat, (hs i).length ≤ 2) : Fine r (matPcs name ns r.toNat c.toNat hs) := by
  refine ⟨by rw [matPcs_len]; omega, by rw [matPcs_len]; omega, ?_⟩
  intro pc hp
  obtain ⟨i, hi, rfl⟩ := List.mem_map.mp hp
  have hi' : i < c.toNat := List.mem_range.mp hi
  have h1 := hh i hi'
  refine ⟨by simp only [Str.length_append, len_dot]; omega, ?_, ?_⟩
  · rw [List.length_map, List.length_take, List.length_drop]
    exact Nat.min_eq_left (Nat.le_sub_of_add_le' (mat_le hr hc hl hi'))
  · intro z hz
    obtain ⟨k, hk, rfl⟩ := List.mem_map.mp hz
    have := hB k (List.mem_of_mem_drop (List.mem_of_mem_take hk))
    exact num_len (by omega) (by omega)
theorem fine_one {r : Int} {name : Str} {xs : List Str} {y : Str} (hn : name.length ≤ 4) (hx : ∀ z ∈ xs, z.length ≤ 10) (hy : y.length ≤ 10) : Fine r [(name, xs.take r.toNat ++ List.replicate (r.toNat - xs.length) y)] := by
  refine ⟨Nat.le_refl _, by simp, ?_⟩
  intro pc hp
  rw [List.mem_singleton.mp hp]
  refine ⟨Nat.le_trans hn (by decide), ?_, ?_⟩
  · rw [List.length_append, List.length_take, List.length_replicate, Nat.add_comm]; exact Nat.sub_add_min_cancel _ _
  · intro z hz
    rcases List.mem_append.mp hz with hz | hz
    · exact hx z (List.mem_of_mem_take hz)
    · rw [(List.mem_replicate.mp hz).2]; exact hy
theorem int_len {z : Int} (h0 : -9 ≤ z) (h1 : z < 60) : (Str.ofString (toString z)).length ≤ 10 := by
  by_cases h : 0 ≤ z
  · exact num_len h (by omega)
  · have h9 : 0 ≤ -z ∧ -z ≤ 9 := by omega
    rw [neg_text (by omega), Str.length_append, len_minus]
    obtain ⟨n, hn⟩ := Int.eq_ofNat_of_zero_le h9.1
    rw [hn] at h9 ⊢
    exact Nat.add_le_add_left ((by decide +kernel : ∀ n : Nat, n ≤ 9 → (Str.ofString (toString (n : Int))).length ≤ 9) n (Int.ofNat_le.mp h9.2)) 1
def HoldEnd : Prop := True
theorem nm_int {c : Int} (_ : 0 ≤ c) : ∃ q : Int, q = c := ⟨c, rfl⟩
theorem uv_list {D : Addr} {h₀ h : Heap} {L : Addr} {k n : Nat} {t1 t2 : Tok} {rest : Led} (N : News h₀ L h ((D, W.listOf (List.take k [Value.str (Str.ofString "u") t1, Value.str (Str.ofString "vv") t2]).toArray n) :: rest)) :
    ∃ hv, StrsAre hv (List.take k [Str.ofString "u", Str.ofString "vv"]) ∧ News h₀ L h ((D, lst hv n) :: rest) :=
  ⟨_, (StrsAre.cons _ _ (StrsAre.cons _ _ .nil)).take' _, N⟩
def uvs (i : Nat) : Str := if i = 0 then Str.ofString "u" else Str.ofString "vv"
theorem uvs_get {k i : Nat} (hk : k ≤ 2) (hi : i < k) : (List.take k [Str.ofString "u", Str.ofString "vv"])[i]? = some (uvs i) := by
  have : k = 1 ∨ k = 2 := by omega
  rcases this with rfl | rfl
  · have : i = 0 := by omega
    subst this; rfl
  · have : i = 0 ∨ i = 1 := by omega
    rcases this with rfl | rfl <;> rfl
theorem uvs_len (i : Nat) : (uvs i).length ≤ 2 := by
  unfold uvs; split <;> decide +kernel
def nums (i : Nat) : Str := Str.ofString (toString (0 + (i : Int) + 1))
theorem nums_len {i : Nat} (h : i < 2) : (nums i).length ≤ 2 := by
  have : i = 0 ∨ i = 1 := by omega
  rcases this with rfl | rfl <;> decide +kernel
theorem heads_get {hv : List Value} {ts : List Str} {hs : Nat → Str} {c i : Nat} (h : StrsAre hv ts) (e : ∀ j < c, ts[j]? = some (hs j)) (hi : i < c) : ∃ t, hv[(0 + (i : Int)).toNat]? = some (.str (hs i) t) := by
  have e0 : (0 + (i : Int)).toNat = i := by omega
  have hl : i < ts.length := (List.getElem?_eq_some_iff.mp (e i hi)).1
  have hl2 : i < hv.length := by rw [h.length]; exact hl
  obtain ⟨y, ty, h1, h2⟩ := h.item i hv[i] (List.getElem?_eq_getElem hl2)
  rw [e i hi] at h2
  cases h2
  rw [e0, List.getElem?_eq_getElem hl2, h1]
  exact ⟨ty, rfl⟩
structure Box (P : Prop) : Prop where
  out : P
theorem ints_at {vs : List Value} {ns : List Int} {j : Nat} {v : Value} {G : Prop} (hi : IntsAre vs ns) (hv : vs[j]? = some v) (h : ∀ y ty, v = .int y ty → ns[j]? = some y → G) : G := by
  obtain ⟨y, ty, e, hy⟩ := IntsAre.at hi j v hv
  exact h y ty e hy
theorem getElem?_of_toArray {l : List Value} {j : Nat} {v : Value} (h : l.toArray[j]? = some v) : l[j]? = some v := by simpa using h
theorem reg_LCJ : True := by
  k_with "my fold" => k_fold
  k_with "my fold2" => k_fold
  trivial
theorem off_LCJ : True := by
  w_top off
  trivial
-- part LCJ
theorem ln_LCJ1 : True := by
  k_with "my @CompEnd" => ((rename HoldEnd => hmkzz; refine to_held ?_))
  trivial
def HoldIf : Prop := True
theorem ln_LCJ2 : True := by
  k_with "my @exec If" => ((rename HoldIf => hmkzz; refine to_held ?_))
  trivial
theorem join_lc {prog : Program} {w : World} {A : Around} {t0 : Sem Flow} {Q : Flow → Shared → Prop} {E : Value → Shared → Prop} {s : Shared} {h₀ : Heap} {L : Addr} {m : Str → Option Value} {news : Led} {x cl tr c5 c4 c3 c2 : Addr} {e0 e2 e3 e4 e5 e6 e14 : Addr × Obj} {ox ocl otr oh0 oc on ot : Obj}
    (r cq : Int) (name : Str) (zs : List Int) (_ : Fr h₀ L s.heap m) (_ : News h₀ L s.heap (e0 :: (x, ox) :: e2 :: e3 :: e4 :: e5 :: e6 :: (cl, ocl) :: (tr, otr) :: (c5, oh0) :: (c4, oc) :: (c3, on) :: (c2, ot) :: e14 :: news))
    (h1 : ∀ Q' : Flow → Shared → Prop, (∀ h' tk' hb hv kh hs oh vs' ns' n' need, IntsAre vs' ns' → ns'.length ≤ 50 → Shows w x r name need (matPcs name zs r.toNat (1 + cq).toNat hs) → (∀ i < (1 + cq).toNat, (hs i).length ≤ 2) → hv.length ≤ 2 → (∀ i < (1 + cq).toNat, ∃ t, hv[(0 + (i : Int)).toNat]? = some (.str (hs i) t)) → oh.data = Data.cell (some (.ref hb)) → (∀ q ∈ need, LCg.Off1 q.1 ((tr, lst vs' n') :: news)) →
        Fr h₀ L h' m → News h₀ L h' ((hb, lst hv kh) :: (cl, ocl) :: (c5, oh) :: (c4, oc) :: (c3, on) :: (c2, ot) :: (need ++ ((tr, lst vs' n') :: news))) → Q' .next { s with heap := h', toks := tk' }) → wpAny (model prog w) A t0 Q' E s)
    (h2 : ∀ h' tk' hb hv kh hs oh vs' ns' n' need, IntsAre vs' ns' → ns'.length ≤ 50 → Shows w x r name need (matPcs name zs r.toNat (1 + cq).toNat hs) → (∀ i < (1 + cq).toNat, (hs i).length ≤ 2) → hv.length ≤ 2 → (∀ i < (1 + cq).toNat, ∃ t, hv[(0 + (i : Int)).toNat]? = some (.str (hs i) t)) → oh.data = Data.cell (some (.ref hb)) → (∀ q ∈ need, LCg.Off1 q.1 ((tr, lst vs' n') :: news)) →
        Fr h₀ L h' m → News h₀ L h' ((hb, lst hv kh) :: (cl, ocl) :: (c5, oh) :: (c4, oc) :: (c3, on) :: (c2, ot) :: (need ++ ((tr, lst vs' n') :: news))) → Q .next { s with heap := h', toks := tk' }) : wpAny (model prog w) A t0 Q E s := h1 Q h2
theorem lc_ (w : World) (tr : Addr) (vs : List Value) (ns : List Int) (n : Nat) (r : Int) (name : Str) (tt tn : Tok) (hr : Hid (r = 1 ∨ r = 2)) (hi : IntsAre vs ns) (hl : ns.length ≤ 50) (hnm : name.length ≤ 4) :
  Tell 550 700 w 444 [.ref tr, .int r tt, .str name tn] [] [(tr, lst vs n)] [tr]
    (fun R => ∀ tp pl x pvs k k2 vs' ns' n' need g pcs, IntsAre vs' ns' → ns'.length ≤ 50 → PiecesIn g pvs pcs → Shows w x r name need pcs → Fine r pcs → LCg.Off1 pl (need ++ g) → R (.ref tp) [(tr, lst vs' n')] ((tp, tup [.ref x, .ref pl] k) :: (pl, lst pvs k2) :: (need ++ g))) := by
  unfold Tell
  intro p loose mean mg mb gd cn cs ca ccd cl outer A₀ base h₀ L m news s Q E B F X N T hk hsep hret
  try k_fold
  simp only [List.cons_append, List.nil_append] at N
  walk_at "tell enterC"
  rename _ ∧ AllLt _ _ => l1c
  have hAL := l1c.2
  have hr1 : 1 ≤ r := by have : r = 1 ∨ r = 2 := hr; omega
  have hr2 : r ≤ 2 := by have : r = 1 ∨ r = 2 := hr; omega
  have hlen := hi.length
  have hap : ∀ p ∈ news, p.1 ≠ tr := hsep tr (.head _)
  try k_fold
  k_steps
  · refine of_held ?_
    rename Fr _ _ _ _ => lF
    rename News _ _ _ _ => lN
    rename IsRange _ _ _ _ _ _ _ _ => lR
    rename IntsAre _ _ => lI
    rename _ ≤ 50 => lL
    rename _ < 2 => lc1
    rename 0 ≤ _ => lc0
    obtain ⟨cq, rfl⟩ := nm_int lc0
    refine src_range rfl lF lN lR (rc_bd hr lc0 lc1).1 (rc_bd hr lc0 lc1).2 ?_
    intro gg
    try k_fold
    refine comp_plum IntsAre (fun y z => ∃ t, y = .int z t) (fun z => 0 ≤ z ∧ z < 60) .nil (fun _ _ _ _ h ⟨t, e⟩ => e ▸ ints_snoc h) lI lL ?_ ?_
    · intro i ys v vs' ns' n' I oI C oC D m₂ h tk E' hin ⟨t9, hv⟩ hi' hl' hC hx F2 N2 off ne
      try k_fold
      subst hv
      clear lF lN
      have oa := (difs3 off).1
      have ob := (difs3 off).2.1
      have oc := (difs3 off).2.2
      try simp only [List.cons_append, List.nil_append] at oa ob oc
      have := (difs_ne3 ne).1
      have := (difs_ne3 ne).2.1
      have := (difs_ne3 ne).2.2
      clear ne
      try k_fold
      k_steps
      all_goals with_reducible assumption
    · intro ys zs vs' ns' n' hG hz hB hi' hl'
      try k_fold
      clear lF lN
      have hys : ys.length = zs.length := hG.length
      try k_fold
      k_steps
      refine of_held ?_
      rename Fr _ _ _ _ => lF
      rename News _ _ _ _ => lN
      rename IsRange _ _ _ _ _ _ _ _ => lR
      refine src_range rfl lF lN lR (by omega) (by omega) ?_
      intro g2
      try k_fold
      refine comp_txt ((List.range (1 + cq).toNat).map fun (i : Nat) => Str.ofString (toString (0 + (i : Int) + 1))) (by simp) ?_ ?_
      · intro i r9 ys9 v I oI C oC D m₂ h tk E' hin hr9 hv hC hx F2 N2 off ne
        try k_fold
        obtain ⟨t9, rfl⟩ := hv
        have hr8 : r9 = Str.ofString (toString (0 + (i : Int) + 1)) := by
          rw [List.getElem?_map, List.getElem?_range hin] at hr9
          exact (Option.some.inj hr9).symm
        subst hr8
        have hi2 : i < 2 := by omega
        clear lF lN
        have oa := (difs3 off).1
        have ob := (difs3 off).2.1
        have oc := (difs3 off).2.2
        try simp only [List.cons_append, List.nil_append] at oa ob oc
        have := (difs_ne3 ne).1
        have := (difs_ne3 ne).2.1
        have := (difs_ne3 ne).2.2
        clear ne
        try k_fold
        k_steps
      · intro us hus
        try k_fold
        clear lF lN
        have husl : us.length = (1 + cq).toNat := by rw [hus.length]; simp
        have hr12 : r = 1 ∨ r = 2 := hr
        have hc12 : (1 + cq) = 1 ∨ (1 + cq) = 2 := by omega
        have hzl : (zs.length : Int) = r * (1 + cq) := by rw [hz]; exact Int.toNat_of_nonneg (rc_bd hr lc0 lc1).1
        have hzl4 : zs.length ≤ 4 := by rcases hr12 with h | h <;> rcases hc12 with h2 | h2 <;> rw [h, h2] at hzl <;> omega
        have hB0 : ∀ k ∈ zs, -100 ≤ k := fun k hk => by have := hB k hk; omega
        have hB1 : ∀ k ∈ zs, k ≤ 200 := fun k hk => by have := hB k hk; omega
        replace hr12 : Hid (r = 1 ∨ r = 2) := hr12
        replace hc12 : Hid ((1 + cq) = 1 ∨ (1 + cq) = 2) := hc12
        have hmi : HoldIf := trivial
        try k_fold
        k_steps
        refine of_held ?_
        rename Fr _ _ _ _ => lF
        rename News _ _ _ _ => lN
        refine join_lc r cq name zs lF lN ?j1 ?j2
        case j1 =>
          intro Q' hQ'
          rename HoldIf => hmk9
          clear hmk9
          k_steps
          · refine of_held ?_
            rename Fr _ _ _ _ => lF
            rename News _ _ _ _ => lN
            rename IsRange _ _ _ _ _ _ _ _ => lR
            obtain ⟨hv, hhv, lN⟩ := uv_list lN
            have hhl : hv.length ≤ 2 := by rw [hhv.length, List.length_take]; simp only [List.length_cons, List.length_nil]; omega
            refine src_range rfl lF lN lR (by omega) (by omega) ?_
            intro g4
            try k_fold
            refine comp_txt ((List.range r.toNat).map fun (i : Nat) => Str.ofString "r" ++ Str.ofString (toString (0 + (i : Int)))) (by simp) ?_ ?_
            · intro i r9 ys9 v I oI C oC D m₂ h tk E' hin hr9 hv9 hC hx F2 N2 off ne
              try k_fold
              obtain ⟨t9, rfl⟩ := hv9
              have hr8 : r9 = Str.ofString "r" ++ Str.ofString (toString (0 + (i : Int))) := by
                rw [List.getElem?_map, List.getElem?_range hin] at hr9
                exact (Option.some.inj hr9).symm
              subst hr8
              have hi2 : i < 2 := by omega
              have hi9 : (Str.ofString (toString (0 + (i : Int)))).length ≤ 10 := num_len (by omega) (by omega)
              have hr1 : (Str.ofString "r").length = 1 := by decide
              clear lF lN
              have oa := (difs3 off).1
              have ob := (difs3 off).2.1
              have oc := (difs3 off).2.2
              try simp only [List.cons_append, List.nil_append] at oa ob oc
              have := (difs_ne3 ne).1
              have := (difs_ne3 ne).2.1
              have := (difs_ne3 ne).2.2
              clear ne
              try k_fold
              k_steps
            · intro rus hrus
              try k_fold
              clear lF lN
              have hrl : rus.length = r.toNat := by rw [hrus.length]; simp
              k_steps
              rename IntsAre _ _ => lI2
              rename _ ≤ 50 => lL2
              refine' hQ' _ _ _ hv _ uvs _ _ _ _ _ lI2 lL2 (shows_matn w _ _ _ _ _ _ _ _ _ _ _ _ _ _ _ _ _ ys rus hv zs uvs name _ _ _ _ _ _ tt _ _ _ _ _ _ _ _ _ _ _ _ _ _ _ _ _ _ _ _ _ _ _ _ _ _ _ _ _ _ _ r (1 + cq) hr12 hc12 hG hB0 hB1 hzl (by omega) (by omega) (by omega) (fun i hi => ⟨heads_get hhv (fun j hj => uvs_get (by omega) hj) hi, Nat.le_trans (uvs_len i) (by decide)⟩) ?hlo ?hd) (fun i _ => uvs_len i) hhl (fun i hi => heads_get hhv (fun j hj => uvs_get (by omega) hj) hi) ?hoh ?off ?FF (drop_to ?NN ?SS)
              case hd => assumption
              case FF => assumption
              case NN => assumption
              case SS => (simp only [List.cons_append, List.nil_append]; k_extra "my subg")
              case hoh => assumption
              case hlo => assumption
              case off =>
                repeat refine aboveC (by k_extra "my off1") ?_
                exact above0
          · rename IntsAre _ _ => lI2
            rename _ ≤ 50 => lL2
            refine' hQ' _ _ _ us _ nums _ _ _ _ _ lI2 lL2 (shows_mat w _ _ _ _ _ _ _ _ ys zs name _ _ _ _ _ _ tt _ _ _ _ _ _ _ _ _ _ r (1 + cq) hr12 hc12 hG hB0 hB1 hzl (by omega) ?hlo ?hd) (fun i hi => nums_len (by omega)) (by omega) (fun i hi => heads_get hus (fun j hj => by rw [List.getElem?_map, List.getElem?_range hj]; rfl) hi) ?hoh ?off ?FF (drop_to ?NN ?SS)
            case hd => assumption
            case FF => assumption
            case NN => assumption
            case SS => (simp only [List.cons_append, List.nil_append]; k_extra "my subg")
            case hoh => assumption
            case hlo => assumption
            case off =>
              repeat refine aboveC (by k_extra "my off1") ?_
              exact above0
        case j2 =>
          intro h3 tk3 hb hv kh hs oh vs2 ns2 n2 need hI2 hL2 hS hh2 hvl hhd hoh hoff F3 N3
          rename HoldIf => hmk9
          clear hmk9 lF lN
          have hsubN : ∀ p ∈ need, p ∈ need ++ ((tr, lst vs2 n2) :: news) := fun p hp => List.mem_append.mpr (.inl hp)
          have hsubK : ∀ p ∈ (tr, lst vs2 n2) :: news, p ∈ need ++ ((tr, lst vs2 n2) :: news) := fun p hp => List.mem_append.mpr (.inr hp)
          generalize need ++ ((tr, lst vs2 n2) :: news) = rest at N3 hsubN hsubK
          k_steps
          refine of_held ?_
          rename Fr _ _ _ _ => lF
          rename News _ _ _ _ => lN
          rename IsRange _ _ _ _ _ _ _ _ => lR
          have hmark : HoldEnd := trivial
          refine src_range rfl lF lN lR (by omega) (by omega) ?_
          intro g5
          try k_fold
          refine comp_pcs (ex := [_, _, _, _, _, _]) (base := rest) (fun i => name ++ Str.ofString "." ++ hs i) (fun i => ((zs.drop (i * r.toNat)).take r.toNat).map fun k => Str.ofString (toString k)) ?_ ?_
          · intro i ys5 g v I oI C oC D m₂ h tk E' hin hv9 hP hg hC hx F2 N2 off ne
            try k_fold
            obtain ⟨t9, rfl⟩ := hv9
            have ob9 := mat_facts hr12 hc12 hzl hin
            obtain ⟨hi2, hn4, hp0, hp1, hp2, hp3⟩ := ob9
            have ob9 := hhd i hin
            obtain ⟨thi, hih⟩ := ob9
            have hhl9 := hh2 i hin
            have hys4 : ys.length ≤ 4 := by omega
            have hcut := mat_cut2 (vs := ys) hr12 hc12 hys hzl hin
            clear lF lN
            simp only [List.cons_append, List.nil_append] at N2
            have off0 := off
            have oa := (difs3 off).1
            have ob := (difs3 off).2.1
            have oc := (difs3 off).2.2
            clear off
            try simp only [List.cons_append, List.nil_append] at oa ob oc
            skip
            skip
            skip
            have := (difs_ne3 ne).1
            have := (difs_ne3 ne).2.1
            have := (difs_ne3 ne).2.2
            clear ne
            try k_fold
            k_steps
            refine of_held ?_
            rename Fr _ _ _ _ => lF
            rename News _ _ _ _ => lN
            refine LCg.CompSrc.ledger (by rfl) lF lN (by k_dflt k_mem) (by rw [List.size_toArray, sizeLine_eq, List.length_take]; omega) ?_
            intro g6
            try k_fold
            have his : IntsAre (List.take (min ((0 + (i : Int) + 1) * r).toNat ys.length - ((0 + (i : Int)) * r).toNat) (List.drop ((0 + (i : Int)) * r).toNat ys)) ((zs.drop (i * r.toNat)).take r.toNat) := hcut ▸ (hG.drop _).take _
            refine comp_txt (((zs.drop (i * r.toNat)).take r.toNat).map fun k => Str.ofString (toString k)) (by rw [List.size_toArray, List.length_map]; exact his.length.symm) ?_ ?_
            · intro j r9 ys9 v I2 oI2 C2 oC2 D2 m₃ h tk E2 hjn hr9 hv hC2 hx2 F3 N3 off2 ne2
              try k_fold
              clear hmark
              have hv' := getElem?_of_toArray hv
              refine ints_at his hv' ?_
              intro y ty ey hy
              try k_fold
              subst ey
              rw [List.getElem?_map, hy] at hr9
              cases hr9
              have hb := hB y (List.mem_of_mem_drop (List.mem_of_mem_take (List.mem_of_getElem? hy)))
              clear lF lN
              have oa := (difs3 off2).1
              have ob := (difs3 off2).2.1
              have oc := (difs3 off2).2.2
              try simp only [List.cons_append, List.nil_append] at oa ob oc
              skip
              skip
              skip
              have := (difs_ne3 ne2).1
              have := (difs_ne3 ne2).2.1
              have := (difs_ne3 ne2).2.2
              clear ne2
              try k_fold
              k_steps
            · intro us6 hus6
              try k_fold
              clear lF lN
              try k_fold
              k_steps
              refine of_held ?_
              refine' pcs_end ?FF ?NN ?SS off0 ?ot ?ol ?S hP hus6 hg ?htp ?hl
              case FF => assumption
              case NN => assumption
              case SS => (simp only [List.cons_append, List.nil_append]; k_extra "my sub")
              case ot => exact ⟨by k_ne, by k_ne, by k_ne⟩
              case ol => exact ⟨by k_ne, by k_ne, by k_ne⟩
              case S => exact fun _ => trivial
              case htp => (simp only [List.cons_append, List.nil_append]; k_extra "my off1")
              case hl => (simp only [List.cons_append, List.nil_append]; k_extra "my off1")
          · intro ys5 g hP hg
            try k_fold
            clear lF lN
            simp only [List.cons_append, List.nil_append]
            have hyl5 : ys5.length ≤ 2 := by rw [hP.length]; simp only [pcsTo, List.length_map, List.length_range]; omega
            try k_fold
            k_steps
            refine' hret _ _ _ ys5 _ _ vs2 ns2 n2 need g (matPcs name zs r.toNat (1 + cq).toNat hs) hI2 hL2 hP hS (fine_mat hr12 hc12 hzl hB hnm hh2) ?ho _ _ ?FF (drop_to ?NN ?SS) ?AA
            case FF => assumption
            case NN => assumption
            case SS =>
              simp only [List.cons_append, List.nil_append]
              refine List.forall_mem_cons.mpr ⟨by k_extra "my tailmem", List.forall_mem_cons.mpr ⟨by k_extra "my tailmem", ?_⟩⟩
              intro p hp
              simp only [List.cons_append, List.nil_append, List.append_assoc, List.mem_cons, List.mem_append] at hp ⊢
              rcases hp with h | h | h | h
              · have := hsubN p h
                simp only [this, or_true]
              · simp only [h, true_or, or_true]
              · have := hsubK p (h ▸ .head _)
                simp only [this, or_true]
              · have := hsubK p (.tail _ h)
                simp only [this, or_true]
            case ho => exact off_app (off_drop (l := rest) (by k_extra "my off1") hsubN) (by k_extra "my off1")
            case AA =>
              refine aboveC (off_drop (off_right (l := g) (l' := rest) (by k_extra "my off1")) hsubK) (aboveC (off_drop (off_right (l := g) (l' := rest) (by k_extra "my off1")) hsubK) ?_)
              intro q hq
              rcases List.mem_append.mp hq with h | h
              · exact hoff q h
              · exact off_drop (hg q h) fun p hp => List.mem_append.mpr (.inr (hsubK p hp))
  · refine of_held ?_
    rename Fr _ _ _ _ => lF
    rename News _ _ _ _ => lN
    rename IsRange _ _ _ _ _ _ _ _ => lR
    rename IntsAre _ _ => lI
    rename _ ≤ 50 => lL
    refine src_range rfl lF lN lR (many_bd _ _ hr).1 (Int.le_trans (many_bd _ _ hr).2 (by decide)) ?_
    intro gg
    try k_fold
    refine comp_plum StrsAre (fun y z => ∃ t, y = .str z t) Clean .nil (fun _ _ _ _ h ⟨t, e⟩ => e ▸ strs_snoc h) lI lL ?_ ?_
    · intro i ys v vs' ns' n' I oI C oC D m₂ h tk E' hin ⟨t9, hv⟩ hi' hl' hC hx F2 N2 off ne
      try k_fold
      subst hv
      clear lF lN
      have oa := (difs3 off).1
      have ob := (difs3 off).2.1
      have oc := (difs3 off).2.2
      try simp only [List.cons_append, List.nil_append] at oa ob oc
      have := (difs_ne3 ne).1
      have := (difs_ne3 ne).2.1
      have := (difs_ne3 ne).2.2
      clear ne
      try k_fold
      k_steps
      all_goals first | with_reducible assumption | exact abc_clean (by with_reducible assumption) (by with_reducible assumption)
    · intro ys zs vs' ns' n' hG hz hB hi' hl'
      try k_fold
      clear lF lN
      have hzl : zs.length ≤ 3 := by rw [hz]; exact Int.toNat_le.mpr (many_bd _ _ hr).2
      have hys : ys.length = zs.length := hG.length
      try k_fold
      k_steps
      refine' hret _ _ _ [.ref _] _ _ vs' ns' _ [(_, instObj 199 _), (_, vecD w.params _ _ _ _ _ _ _ _), (_, lst ys _)] [(_, tup [.str name _, .ref _] _), (_, lst _ _)] [(name, _)] hi' hl' (.cons ⟨_, _, _, _, _, _, rfl, .head _, .tail _ (.head _), ?hp⟩ .nil) (shows_str w _ _ _ ys zs name _ _ _ _ _ _ _ r hr hG hB ?hl) (fine_one hnm (fun z hz => (hB z hz).2.2.2) (by decide +kernel)) ?ho _ _ ?FF (drop_to ?NN ?SS) ?AA
      case FF => assumption
      case NN => assumption
      case SS => k_extra "my sub"
      case hp => exact strs_told hG
      case hl => omega
      case ho => k_extra "my off1"
      case AA => k_extra "my above"
  · refine of_held ?_
    rename Fr _ _ _ _ => lF
    rename News _ _ _ _ => lN
    rename IsRange _ _ _ _ _ _ _ _ => lR
    rename IntsAre _ _ => lI
    rename _ ≤ 50 => lL
    refine src_range rfl lF lN lR (many_bd _ _ hr).1 (Int.le_trans (many_bd _ _ hr).2 (by decide)) ?_
    intro gg
    try k_fold
    refine comp_plum IntsAre (fun y z => ∃ t, y = .int z t) (fun z => -9 ≤ z ∧ z < 51) .nil (fun _ _ _ _ h ⟨t, e⟩ => e ▸ ints_snoc h) lI lL ?_ ?_
    · intro i ys v vs' ns' n' I oI C oC D m₂ h tk E' hin ⟨t9, hv⟩ hi' hl' hC hx F2 N2 off ne
      try k_fold
      subst hv
      clear lF lN
      have oa := (difs3 off).1
      have ob := (difs3 off).2.1
      have oc := (difs3 off).2.2
      try simp only [List.cons_append, List.nil_append] at oa ob oc
      have := (difs_ne3 ne).1
      have := (difs_ne3 ne).2.1
      have := (difs_ne3 ne).2.2
      clear ne
      try k_fold
      k_steps
      all_goals with_reducible assumption
    · intro ys zs vs' ns' n' hG hz hB hi' hl'
      try k_fold
      clear lF lN
      have hzl : zs.length ≤ 3 := by rw [hz]; exact Int.toNat_le.mpr (many_bd _ _ hr).2
      try k_fold
      k_steps
      refine of_held ?_
      rename Fr _ _ _ _ => lF
      rename News _ _ _ _ => lN
      have hys : ys.length = zs.length := hG.length
      refine LCg.CompSrc.ledger (by rfl) lF lN (by k_dflt k_mem) (by rw [List.size_toArray, sizeLine_eq]; omega) ?_
      intro g2
      try k_fold
      refine comp_txt (zs.map fun k => Str.ofString (toString k)) (by rw [List.size_toArray, List.length_map]; exact hys.symm) ?_ ?_
      · intro i r9 ys9 v I oI C oC D m₂ h tk E' hin hr9 hv hC hx F2 N2 off ne
        try k_fold
        have hv' : ys[i]? = some v := by simpa using hv
        refine ints_at hG hv' ?_
        intro y ty ey hy
        try k_fold
        subst ey
        rw [List.getElem?_map, hy] at hr9
        cases hr9
        have hb := hB y (List.mem_of_getElem? hy)
        clear lF lN
        have oa := (difs3 off).1
        have ob := (difs3 off).2.1
        have oc := (difs3 off).2.2
        try simp only [List.cons_append, List.nil_append] at oa ob oc
        have := (difs_ne3 ne).1
        have := (difs_ne3 ne).2.1
        have := (difs_ne3 ne).2.2
        clear ne
        try k_fold
        k_steps
      · intro us hus
        try k_fold
        clear lF lN
        have husl : us.length = zs.length := by rw [hus.length, List.length_map]
        try k_fold
        k_steps
        refine' hret _ _ _ [.ref _] _ _ vs' ns' _ [(_, instObj 199 _), (_, vecD w.params _ _ _ _ _ _ _ _), (_, lst ys _)] [(_, tup [.str name _, .ref _] _), (_, lst _ _)] [(name, _)] hi' hl' (.cons ⟨_, _, _, _, _, _, rfl, .head _, .tail _ (.head _), ?hp⟩ .nil) (shows_int w _ _ _ ys zs name _ _ _ _ _ _ _ r hr hG ?h0 ?h1 ?hl) ?fn ?ho _ _ ?FF (drop_to ?NN ?SS) ?AA
        case FF => assumption
        case NN => assumption
        case SS => k_extra "my sub"
        case hp => (refine strs_cong (strs_told hus) ?_; rw [List.length_map])
        case fn =>
          have hf := fine_one (r := r) (xs := zs.map fun k => Str.ofString (toString k)) (y := Str.ofString "NA") hnm (fun z hz => by
            obtain ⟨k, hk, rfl⟩ := List.mem_map.mp hz
            have := hB k hk
            exact int_len this.1 (by omega)) (by decide +kernel)
          rw [List.length_map] at hf
          exact hf
        case h0 => exact fun k hk => by have := hB k hk; omega
        case h1 => exact fun k hk => by have := hB k hk; omega
        case hl => omega
        case ho => k_extra "my off1"
        case AA => k_extra "my above"
theorem reg_P1 : True := by
  w_top off
  k_with_none
  k_with "tell start" => ((unfold Tell; intro pzz loosezz meanzz mgzz mbzz gdzz cnzz cszz cazz ccdzz clzz outerzz A₀zz basezz h₀zz Lzz mzz newszz szz Qzz Ezz Bzz Fzz Xzz Nzz Tzz hkzz hsepzz hretzz; simp only [List.cons_append, List.nil_append] at Nzz; walk_at "tell enter"))
  k_with "my @call ref" => ((k_here; (with_reducible show wpAny _ _ (call (Value.ref _) _ _) _ _ _); first | walk_at "tell enter" | walk_at "tell enterC"))
  k_with "my cn" => (first | with_reducible exact And.left | with_reducible exact cn_id | ((with_reducible refine cn_sk ?_); k_extra "my cn"))
  k_with "my conj" => ((k_whole; (with_reducible refine cn_pick (by with_reducible assumption) ?_); k_extra "my cn"))
  k_with "my nn" => (first | with_reducible exact sd1 | with_reducible exact sd2 | with_reducible exact sd3 | with_reducible exact sd4 | with_reducible exact sd5 | with_reducible exact sd6 | with_reducible exact sd7 | with_reducible exact se1 | with_reducible exact se2 | with_reducible exact se3 | with_reducible exact se4 | with_reducible exact se5 | with_reducible exact se6 | with_reducible exact se7 | ((with_reducible refine su ?_); k_extra "my nn"))
  k_with "my lt0" => (first | with_reducible assumption | k_extra "my conj")
  k_with "my hyp" => (first | with_reducible assumption | with_reducible exact And.left (by with_reducible assumption) | with_reducible exact And.right (by with_reducible assumption))
  k_with "my omega" => ((k_whole; first | with_reducible assumption | decide | ((with_reducible show @Ne Nat _ _); first | (k_extra "my nn") | with_reducible exact nu1 (by k_extra "my lt0") | with_reducible exact nu2 (by k_extra "my lt0") | with_reducible exact nu3 (by k_extra "my lt0") | with_reducible exact nu4 (by k_extra "my lt0") | with_reducible exact nu5 (by k_extra "my lt0") | with_reducible exact nu6 (by k_extra "my lt0") | with_reducible exact nu7 (by k_extra "my lt0") | with_reducible exact nv1 (by k_extra "my lt0") | with_reducible exact nv2 (by k_extra "my lt0") | with_reducible exact nv3 (by k_extra "my lt0") | with_reducible exact nv4 (by k_extra "my lt0") | with_reducible exact nv5 (by k_extra "my lt0") | with_reducible exact nv6 (by k_extra "my lt0") | with_reducible exact nv7 (by k_extra "my lt0") | with_reducible exact ne_l (by k_extra "my lt0") | with_reducible exact ne_r (by k_extra "my lt0")) | ((with_reducible show @LE.le Nat _ _ _); first | with_reducible exact qm1 (by k_extra "my hyp") (by k_extra "my hyp") (by first | with_reducible exact mx2 (by with_reducible assumption) (by k_extra "my hyp") (by k_extra "my hyp") | with_reducible exact mx3 (by with_reducible assumption) (by k_extra "my hyp") (by k_extra "my hyp") (by k_extra "my hyp")) (by decide) | with_reducible exact qm2 (by k_extra "my hyp") (by first | with_reducible exact mx2 (by with_reducible assumption) (by k_extra "my hyp") (by k_extra "my hyp") | with_reducible exact mx3 (by with_reducible assumption) (by k_extra "my hyp") (by k_extra "my hyp") (by k_extra "my hyp")) (by decide) | with_reducible exact qn1 (by k_extra "my hyp") (by decide) | with_reducible exact qn2 (by k_extra "my hyp") (by decide) | with_reducible exact qn8 (by k_extra "my hyp") (by k_extra "my hyp") (by decide) | with_reducible exact qn7 (by k_extra "my hyp") (by k_extra "my hyp") (by decide) | with_reducible exact qn10 (by k_extra "my hyp") (by k_extra "my hyp") (by decide) | with_reducible exact qn14 (by k_extra "my hyp") (by k_extra "my hyp") (by decide) | with_reducible exact qn13 (by k_extra "my hyp") (by decide) | with_reducible exact qn5 (by k_extra "my hyp") (by decide) | with_reducible exact qn6 (by k_extra "my hyp") (by k_extra "my hyp") (by decide) | with_reducible exact qn6b (by k_extra "my hyp") (by k_extra "my hyp") (by decide) | with_reducible exact qn6c (by k_extra "my hyp") (by k_extra "my hyp") (by decide) | with_reducible exact qn11 (by k_extra "my hyp") (by decide)) | ((with_reducible show @LT.lt Nat _ _ _); first | with_reducible exact qn3 (by k_extra "my hyp") (by decide) | with_reducible exact qn4 (by k_extra "my hyp") (by decide) | with_reducible exact qn9 (by k_extra "my hyp") (by k_extra "my hyp") (by decide) | with_reducible exact qn12 (by k_extra "my hyp") (by k_extra "my hyp") (by decide)) | ((with_reducible show @LE.le Int _ _ _); first | with_reducible exact qi1 (by k_extra "my hyp") (by decide) | with_reducible exact qi2 (by k_extra "my hyp") (by decide) | with_reducible exact qi5 (by k_extra "my hyp") (by decide) | with_reducible exact qi6 (by k_extra "my hyp") (by decide) | with_reducible exact qc5 (by decide) | with_reducible exact qc2 (by k_extra "my hyp") (by decide) | with_reducible exact qc7 (by decide) | with_reducible exact qc4 (by k_extra "my hyp") (by decide) | with_reducible exact qc11 (by decide) | with_reducible exact qc13 (by k_extra "my hyp") (by decide) | with_reducible exact qq1 (by k_extra "my hyp") (by decide) | with_reducible exact qq2 (by k_extra "my hyp") (by decide) | with_reducible exact qi10 (by k_extra "my hyp") (by decide)) | ((with_reducible show @LT.lt Int _ _ _); first | with_reducible exact mxi2 (by with_reducible assumption) (by k_extra "my hyp") (by k_extra "my hyp") (by decide) | with_reducible exact mxi3 (by with_reducible assumption) (by k_extra "my hyp") (by k_extra "my hyp") (by k_extra "my hyp") (by decide) | with_reducible exact qc14 (by with_reducible assumption) (by decide) | with_reducible exact qi3 (by k_extra "my hyp") (by decide) | with_reducible exact qi4 (by k_extra "my hyp") (by decide) | with_reducible exact qi7 (by k_extra "my hyp") (by decide) | with_reducible exact qi8 (by k_extra "my hyp") (by decide) | with_reducible exact qc6 (by decide) | with_reducible exact qc1 (by k_extra "my hyp") (by decide) | with_reducible exact qc8 (by decide) | with_reducible exact qc3 (by k_extra "my hyp") (by decide) | with_reducible exact qc12 (by decide) | with_reducible exact qc9 (by k_extra "my hyp") (by decide) | with_reducible exact qi9 (by k_extra "my hyp") (by decide)) | ((with_reducible show @Eq Nat _ _); first | with_reducible exact qe1 | with_reducible exact qe2) | ((with_reducible show Not _); first | with_reducible exact qc10 (by k_extra "my hyp") (by decide))))
  k_with "my ne" => (((refine neN ?_); (try dsimp only); first | with_reducible assumption | exact dif_ne (by with_reducible assumption) | exact dif_ne' (by with_reducible assumption) | k_extra "my difne" | with_reducible exact ne_l (by k_extra "my conj") | with_reducible exact ne_r (by k_extra "my conj") | omega))
  k_with "my difne" => (first | (refine difs_pick (by with_reducible assumption) ?_; intro h9zz; first | exact difs_at h9zz 0 rfl | exact difs_at h9zz 1 rfl | exact difs_at h9zz 2 rfl | exact difs_at h9zz 3 rfl | exact difs_at h9zz 4 rfl | exact difs_at h9zz 5 rfl | exact difs_at h9zz 6 rfl | exact difs_at h9zz 7 rfl | exact difs_at h9zz 8 rfl | exact difs_at h9zz 9 rfl | exact difs_at h9zz 10 rfl | exact difs_at h9zz 11 rfl | exact difs_at h9zz 12 rfl | exact difs_at h9zz 13 rfl | exact difs_at h9zz 14 rfl | exact difs_at h9zz 15 rfl | exact difs_at h9zz 16 rfl | exact difs_at h9zz 17 rfl | exact difs_at h9zz 18 rfl | exact difs_at h9zz 19 rfl | exact difs_at h9zz 20 rfl | exact difs_at h9zz 21 rfl | exact difs_at h9zz 22 rfl | exact difs_at h9zz 23 rfl | exact difs_at h9zz 24 rfl | exact difs_at h9zz 25 rfl | exact difs_at h9zz 26 rfl | exact difs_at h9zz 27 rfl | exact difs_at h9zz 28 rfl | exact difs_at h9zz 29 rfl | exact difs_at h9zz 30 rfl | exact difs_at h9zz 31 rfl | exact difs_at h9zz 32 rfl | exact difs_at h9zz 33 rfl | exact difs_at h9zz 34 rfl | exact difs_at h9zz 35 rfl | exact difs_at h9zz 36 rfl | exact difs_at h9zz 37 rfl | exact difs_at h9zz 38 rfl | exact difs_at h9zz 39 rfl) | (refine difs_pick' (by with_reducible assumption) ?_; intro h9zz; first | exact difs_at' h9zz 0 rfl | exact difs_at' h9zz 1 rfl | exact difs_at' h9zz 2 rfl | exact difs_at' h9zz 3 rfl | exact difs_at' h9zz 4 rfl | exact difs_at' h9zz 5 rfl | exact difs_at' h9zz 6 rfl | exact difs_at' h9zz 7 rfl | exact difs_at' h9zz 8 rfl | exact difs_at' h9zz 9 rfl | exact difs_at' h9zz 10 rfl | exact difs_at' h9zz 11 rfl | exact difs_at' h9zz 12 rfl | exact difs_at' h9zz 13 rfl | exact difs_at' h9zz 14 rfl | exact difs_at' h9zz 15 rfl | exact difs_at' h9zz 16 rfl | exact difs_at' h9zz 17 rfl | exact difs_at' h9zz 18 rfl | exact difs_at' h9zz 19 rfl | exact difs_at' h9zz 20 rfl | exact difs_at' h9zz 21 rfl | exact difs_at' h9zz 22 rfl | exact difs_at' h9zz 23 rfl | exact difs_at' h9zz 24 rfl | exact difs_at' h9zz 25 rfl | exact difs_at' h9zz 26 rfl | exact difs_at' h9zz 27 rfl | exact difs_at' h9zz 28 rfl | exact difs_at' h9zz 29 rfl | exact difs_at' h9zz 30 rfl | exact difs_at' h9zz 31 rfl | exact difs_at' h9zz 32 rfl | exact difs_at' h9zz 33 rfl | exact difs_at' h9zz 34 rfl | exact difs_at' h9zz 35 rfl | exact difs_at' h9zz 36 rfl | exact difs_at' h9zz 37 rfl | exact difs_at' h9zz 38 rfl | exact difs_at' h9zz 39 rfl))
  k_with "my ctl" => (first | with_reducible exact ct_all | with_reducible exact ct_left | with_reducible exact ct_right | with_reducible exact ct_nil | with_reducible exact ct_one | ((with_reducible refine ct_keep ?_); k_extra "my ctl") | ((with_reducible refine ct_skip ?_); k_extra "my ctl"))
  k_with "my o3l" => (first | with_reducible exact o3_id | with_reducible exact o3_nil | ((with_reducible refine o3_keep ?_); k_extra "my o3l") | ((with_reducible refine o3_skip ?_); k_extra "my o3l"))
  k_with "my o3" => (first | with_reducible assumption | ((try simp only [List.cons_append, List.nil_append]); refine off3By (by with_reducible assumption) ?_; k_extra "my o3l") | (refine And.intro ⟨by k_ne, by k_ne, by k_ne⟩ ?_; k_extra "my o3"))
  k_with "my okl" => (first | with_reducible exact ok_id | with_reducible exact ok_left | with_reducible exact ok_right | with_reducible exact ok_nil | ((with_reducible refine ok_keep ?_); k_extra "my okl") | ((with_reducible refine ok_skip ?_); k_extra "my okl"))
  k_with "my offtail" => (first | with_reducible exact off_difs (by with_reducible assumption) | exact off_lt (by with_reducible assumption) | exact off_of (by with_reducible assumption) | exact off_all (by with_reducible assumption) | exact off_left (by with_reducible assumption) | exact off_right (by with_reducible assumption) | exact off_lt (all_up (by with_reducible assumption)) | exact off_lt (all_up (all_up (by with_reducible assumption))) | exact off_lt (all_up (all_up (all_up (by with_reducible assumption)))) | exact off_lt (all_up (all_up (all_up (all_up (by with_reducible assumption))))) | exact off_lt (all_up (all_up (all_up (all_up (all_up (by with_reducible assumption)))))) | exact off_lt (all_up (all_up (all_up (all_up (all_up (all_up (by with_reducible assumption))))))) | exact off_lt (And.right (by with_reducible assumption)) | exact And.right (by with_reducible assumption) | exact off_lt (And.right (And.right (by with_reducible assumption))) | exact And.right (And.right (by with_reducible assumption)) | exact off_lt (And.right (And.right (And.right (by with_reducible assumption)))) | exact And.right (And.right (And.right (by with_reducible assumption))) | exact off_lt (And.right (And.right (And.right (And.right (by with_reducible assumption))))) | exact And.right (And.right (And.right (And.right (by with_reducible assumption)))) | exact off_lt (And.right (And.right (And.right (And.right (And.right (by with_reducible assumption)))))) | exact And.right (And.right (And.right (And.right (And.right (by with_reducible assumption))))) | exact off_lt (And.right (And.right (And.right (And.right (And.right (And.right (by with_reducible assumption))))))) | exact And.right (And.right (And.right (And.right (And.right (And.right (by with_reducible assumption)))))) | exact off_lt (And.right (And.right (And.right (And.right (And.right (And.right (And.right (by with_reducible assumption)))))))) | exact And.right (And.right (And.right (And.right (And.right (And.right (And.right (by with_reducible assumption))))))) | exact off_lt (And.right (And.right (And.right (And.right (And.right (And.right (And.right (And.right (by with_reducible assumption))))))))) | exact And.right (And.right (And.right (And.right (And.right (And.right (And.right (And.right (by with_reducible assumption)))))))) | exact off_lt (And.right (And.right (And.right (And.right (And.right (And.right (And.right (And.right (And.right (by with_reducible assumption)))))))))) | exact And.right (And.right (And.right (And.right (And.right (And.right (And.right (And.right (And.right (by with_reducible assumption))))))))) | exact off_lt (And.right (And.right (And.right (And.right (And.right (And.right (And.right (And.right (And.right (And.right (by with_reducible assumption))))))))))) | exact And.right (And.right (And.right (And.right (And.right (And.right (And.right (And.right (And.right (And.right (by with_reducible assumption)))))))))) | exact off_lt (And.right (And.right (And.right (And.right (And.right (And.right (And.right (And.right (And.right (And.right (And.right (by with_reducible assumption)))))))))))) | exact And.right (And.right (And.right (And.right (And.right (And.right (And.right (And.right (And.right (And.right (And.right (by with_reducible assumption))))))))))) | exact off_lt (And.right (And.right (And.right (And.right (And.right (And.right (And.right (And.right (And.right (And.right (And.right (And.right (by with_reducible assumption))))))))))))) | exact And.right (And.right (And.right (And.right (And.right (And.right (And.right (And.right (And.right (And.right (And.right (And.right (by with_reducible assumption)))))))))))) | exact off_lt (And.right (And.right (And.right (And.right (And.right (And.right (And.right (And.right (And.right (And.right (And.right (And.right (And.right (by with_reducible assumption)))))))))))))) | exact And.right (And.right (And.right (And.right (And.right (And.right (And.right (And.right (And.right (And.right (And.right (And.right (And.right (by with_reducible assumption))))))))))))) | exact off_lt (And.right (And.right (And.right (And.right (And.right (And.right (And.right (And.right (And.right (And.right (And.right (And.right (And.right (And.right (by with_reducible assumption))))))))))))))) | exact And.right (And.right (And.right (And.right (And.right (And.right (And.right (And.right (And.right (And.right (And.right (And.right (And.right (And.right (by with_reducible assumption)))))))))))))))
  k_with "my off1" => (first | exact True.intro | with_reducible assumption | exact off_difs (by with_reducible assumption) | (refine offBy (by with_reducible assumption) ?_; k_extra "my okl") | (refine offByC (by with_reducible assumption) ?_; k_extra "my ctl") | (refine And.intro ?_ ?_; (k_extra "my ne"); k_extra "my off1") | k_extra "my offtail")
  k_with "my above" => (first | exact above0 | (simp only [List.nil_append, List.cons_append]; k_extra "my above") | (refine aboveC ?_ ?_; (k_extra "my off1"); (k_extra "my above")))
  k_with "my need" => (first | exact List.forall_mem_nil _ | (refine' List.forall_mem_cons.mpr ⟨(by k_mem), (by k_extra "my need")⟩))
  k_with "my split" => (skip)
  k_with "my @call builtin:list.pop" => ((k_here; k_dflt (refine' pop0 (by k_asm) (by k_asm) (by k_upd) (by first | assumption | (simp only [List.length_cons] at *; omega)) ?_; k_whole); intro h'zz F'zz N'zz; (try dsimp only [List.nil_append, List.cons_append] at N'zz)))
  k_with "my len" => (((try dsimp only); (try simp only [rjust_len, ljust_len, Str.length_append, len_space, len_nil, len_dot]); omega))
  k_with "my @binaryOp Add str str" => ((k_here; (with_reducible show wpAny _ _ (binaryOp Operator.Add (Value.str _ _) (Value.str _ _)) _ _ _); refine add_ (by k_extra "my len") ?_; intro _ _))
  k_with "my strs" => (first | with_reducible assumption | exact StrsAre.nil | (refine' StrsAre.cons _ _ (by k_extra "my strs")))
  k_with "my @call builtin:str.join" => ((k_here; (with_reducible show wpAny _ _ (call (Value.builtin "str.join") [Value.str _ _, Value.ref _]) _ _ _); k_dflt (refine' k_join (by k_asm) (by k_mem) (by (with_unfolding_all k_extra "my strs")) (by k_extra "my each") (by exact Nat.le_of_ble_eq_true rfl) ?_; k_whole; intro _ _)))
  k_with "my tlen" => (first | decide | exact Nat.le_trans (num_len (by omega) (by omega)) (by decide) | k_extra "my len")
  k_with "my each" => (first | assumption | exact List.forall_mem_nil _ | (refine List.forall_mem_cons.mpr ⟨by k_extra "my tlen", ?_⟩; k_extra "my each"))
  k_with "my @compareOp In str str" => ((k_here; refine in_no (by assumption) ?_))
  k_with "my @call builtin:str.isprintable" => ((k_here; refine KXw.isprintable (b := true) (by assumption) ?_))
  k_with "my @WhlIf" => ((refine WhlIf.no (decide_eq_false (by rw [pow18]; omega)) ?_))
  k_with "my @subscriptTail Attribute" => ((k_here; k_dflt (refine kba_turn (value' := PySem.Expr.Name (PySem.Str.ofString "_") ⟨0, 0, 0, 0⟩) (fun _ => rfl) ?_)))
  k_with "my @subscriptTail Subscript" => ((k_here; k_dflt (refine kba_turn (value' := PySem.Expr.Name (PySem.Str.ofString "_") ⟨0, 0, 0, 0⟩) (fun _ => rfl) ?_)))
  k_with "my @execs cons Assign cons" => (first | (k_here; k_gentoks) | ((with_reducible refine wpAny_execs_cons ?_); try dsimp only))
  k_with "my @execs cons" => (first | (k_here; k_gentoks) | ((with_reducible refine wpAny_execs_cons ?_); try dsimp only))
  k_with "my @exec Assign" => ((k_here; (with_reducible show wpAny _ _ (exec (PySem.Stmt.Assign [PySem.Expr.Name _ _] _ _) _) _ _ _); k_dflt (refine wpAny_Assign_Name ?_)))
  k_with "my @exec While" => ((k_here; k_dflt (refine whl_start 100 ?_)))
  k_with "my pull" => (first | exact Pull.head | (refine' Pull.tail (by k_extra "my pull")))
  k_with "my @call ref" => ((k_here; (with_reducible show wpAny _ _ (call (Value.ref 66) _ _) _ _ _); k_dflt (refine' Tell.useQ (by k_asm) (by k_asm) (by k_asm) (by k_asm) (by k_asm) (by first | exact rfl | assumption) (by k_extra "my need") (by exact Nat.le_of_ble_eq_true rfl) (by exact Nat.le_of_ble_eq_true rfl) (whole_ _ _ _ (by omega) (by omega)) ?_; k_whole; intro tkzz h'zz tk'zz F'zz N'zz l1zz; (try simp only [List.nil_append, List.cons_append] at N'zz); clear l1zz; (try dsimp only); (try k_sweep))))
  k_with "my @call ref" => ((k_here; (with_reducible show wpAny _ _ (call (Value.ref 377) _ _) _ _ _); k_dflt (refine' Tell.useQ (by k_asm) (by k_asm) (by k_asm) (by k_asm) (by k_asm) (by first | exact rfl | assumption) (by k_extra "my need") (by exact Nat.le_of_ble_eq_true rfl) (by exact Nat.le_of_ble_eq_true rfl) (padded_ _ _ _ _ _ (by omega) (by omega) (by k_extra "my len")) ?_; k_whole; intro tkzz h'zz tk'zz F'zz N'zz l1zz; (try simp only [List.nil_append, List.cons_append] at N'zz); clear l1zz; (try dsimp only); (try k_sweep))))
  k_with "my @call ref" => ((k_here; (with_reducible show wpAny _ _ (call (Value.ref 243) _ _) _ _ _); k_dflt (refine' Tell.useQ (by k_asm) (by k_asm) (by k_asm) (by k_asm) (by k_asm) (by first | exact rfl | assumption) (by k_extra "my need") (by exact Nat.le_of_ble_eq_true rfl) (by exact Nat.le_of_ble_eq_true rfl) (encode_ _ _ _ (by first | assumption | decide +kernel) (by first | assumption | decide +kernel) (by first | assumption | decide +kernel)) ?_; k_whole; intro tkzz h'zz tk'zz F'zz N'zz l1zz; (try simp only [List.nil_append, List.cons_append] at N'zz); clear l1zz; (try dsimp only); (try k_sweep))))
  k_with "my @call ref" => ((k_here; (with_reducible show wpAny _ _ (call (Value.ref 278) _ _) _ _ _); k_dflt (refine' Tell.useQ (by k_asm) (by k_asm) (by k_asm) (by k_asm) (by k_asm) (by first | exact rfl | assumption) (by k_extra "my need") (by exact Nat.le_of_ble_eq_true rfl) (by exact Nat.le_of_ble_eq_true rfl) (widest2 _ _ _ _ _ _ _ (by k_extra "my len") (by k_extra "my len")) ?_; k_whole; intro tkzz h'zz tk'zz F'zz N'zz l1zz; (try simp only [List.nil_append, List.cons_append] at N'zz); clear l1zz; (try dsimp only); (try k_sweep))))
  k_with "my @call ref" => ((k_here; (with_reducible show wpAny _ _ (call (Value.ref 278) _ _) _ _ _); k_dflt (refine' Tell.useQ (by k_asm) (by k_asm) (by k_asm) (by k_asm) (by k_asm) (by first | exact rfl | assumption) (by k_extra "my need") (by exact Nat.le_of_ble_eq_true rfl) (by exact Nat.le_of_ble_eq_true rfl) (widest1 _ _ _ _ _ (by k_extra "my len")) ?_; k_whole; intro tkzz h'zz tk'zz F'zz N'zz l1zz; (try simp only [List.nil_append, List.cons_append] at N'zz); clear l1zz; (try dsimp only); (try k_sweep))))
  k_with "my @call ref" => ((k_here; (with_reducible show wpAny _ _ (call (Value.ref 199) [_, _, _] _) _ _ _); k_dflt (refine' Tell.useQ (by k_asm) (by k_asm) (by k_asm) (by k_asm) (by k_asm) (by first | exact rfl | assumption) (by k_extra "my need") (by exact Nat.le_of_ble_eq_true rfl) (by exact Nat.le_of_ble_eq_true rfl) (vector3 _ _ _ _) ?_; k_whole; intro xzz dxzz t1zz t2zz t3zz t4zz t5zz hxzz h'zz tk'zz F'zz N'zz l1zz; (try simp only [List.nil_append, List.cons_append] at N'zz); (have l2zz := difs_of (below2 l1zz).1; have l3zz := difs_of (below2 l1zz).2; clear l1zz; (try simp only [List.nil_append, List.cons_append] at l2zz l3zz); skip); (try dsimp only); (try k_sweep))))
  k_with "my @call ref" => ((k_here; (with_reducible show wpAny _ _ (call (Value.ref 199) [_, _] _) _ _ _); k_dflt (refine' Tell.useQ (by k_asm) (by k_asm) (by k_asm) (by k_asm) (by k_asm) (by first | exact rfl | assumption) (by k_extra "my need") (by exact Nat.le_of_ble_eq_true rfl) (by exact Nat.le_of_ble_eq_true rfl) (vector2 _ _ _) ?_; k_whole; intro xzz dxzz t1zz t2zz t3zz t4zz t5zz hxzz h'zz tk'zz F'zz N'zz l1zz; (try simp only [List.nil_append, List.cons_append] at N'zz); (have l2zz := difs_of (below2 l1zz).1; have l3zz := difs_of (below2 l1zz).2; clear l1zz; (try simp only [List.nil_append, List.cons_append] at l2zz l3zz); skip); (try dsimp only); (try k_sweep))))
  k_with "my @call ref" => ((k_here; (with_reducible show wpAny _ _ (call (Value.ref 439) [_, _] _) _ _ _); k_dflt (refine' Tell.use2 (by k_asm) (by k_asm) (by k_asm) (by (refine' pull1 (by k_asm) (by k_extra "my pull"))) (by k_asm) (by first | exact rfl | assumption) (by (refine mt1 ?_; k_all)) (by exact Nat.le_of_ble_eq_true rfl) (by exact Nat.le_of_ble_eq_true rfl) (plum_ _ _ _ _ _ _ _ (by assumption) (by assumption) (by omega) (by omega)) ?_; k_whole; intro tkzz rzz vs'zz ns'zz n'zz hi'zz hl'zz h0zz h1zz h'zz tk'zz F'zz N'zz l1zz; (try simp only [List.nil_append, List.cons_append] at N'zz); clear l1zz; (try dsimp only); (try k_sweep))))
  k_with "my @call ref" => ((k_here; (with_reducible show wpAny _ _ (call (Value.ref 265) _ _) _ _ _); k_dflt (refine' Tell.useQ (by k_asm) (by k_asm) (by k_asm) (by k_asm) (by k_asm) (by first | exact rfl | assumption) (by k_extra "my need") (by exact Nat.le_of_ble_eq_true rfl) (by exact Nat.le_of_ble_eq_true rfl) (fmt_int _ _ _ _ _ (by omega) (by omega)) ?_; k_whole; intro tkzz h'zz tk'zz F'zz N'zz l1zz; (try simp only [List.nil_append, List.cons_append] at N'zz); clear l1zz; (try dsimp only); (try k_sweep))))
  k_with "my @call ref" => ((k_here; (with_reducible show wpAny _ _ (call (Value.ref 265) _ _) _ _ _); k_dflt (refine' Tell.useQ (by k_asm) (by k_asm) (by k_asm) (by k_asm) (by k_asm) (by first | exact rfl | assumption) (by k_extra "my need") (by exact Nat.le_of_ble_eq_true rfl) (by exact Nat.le_of_ble_eq_true rfl) (fmt_str _ _ _ _ _ (by first | assumption | decide +kernel) (by first | assumption | decide +kernel) (by first | assumption | decide +kernel)) ?_; k_whole; intro tkzz h'zz tk'zz F'zz N'zz l1zz; (try simp only [List.nil_append, List.cons_append] at N'zz); clear l1zz; (try dsimp only); (try k_sweep))))
  k_with "my @call ref" => ((k_here; (with_reducible show wpAny _ _ (call (Value.ref 231) _ _) _ _ _); k_dflt (refine' Tell.useQ (by k_asm) (by k_asm) (by k_asm) (by k_asm) (by k_asm) (by first | exact rfl | assumption) (by k_extra "my need") (by exact Nat.le_of_ble_eq_true rfl) (by exact Nat.le_of_ble_eq_true rfl) (grown_ _ _ _ _ _ (by omega) (by omega) (by k_extra "my len")) ?_; k_whole; intro tkzz h'zz tk'zz F'zz N'zz l1zz; (try simp only [List.nil_append, List.cons_append] at N'zz); clear l1zz; (try dsimp only); (try k_sweep))))
  k_with "my comp" => ((k_here; k_dflt (refine LCg.ListComp_U (F₀ := by k_asm) (by with_unfolding_all rfl) (by decide) (by rfl) (by decide) (by rfl) ?_)))
  k_with "my o3c" => (((try simp only [List.cons_append, List.nil_append]); refine off3By (by with_reducible assumption) ?_; k_extra "my o3l"))
  k_with "my offs" => (first | exact True.intro | k_extra "my o3c" | (k_whole; refine And.intro ⟨by k_ne, by k_ne, by k_ne⟩ ?_; k_extra "my offs") | assumption)
  k_with "my list" => (exact News.isList (by k_asm) (by k_mem))
  k_with "my slice" => ((k_here; (with_reducible show wpAny _ _ (subscriptTail _ (PySem.Expr.Slice _ _ none _) (Value.ref _) (Value.ref _)) _ _ _); k_dflt (refine' kms_slice_lit (by k_asm) (by k_asm) (by k_extra "my list") (by kmk_part) (by kmk_part) (by first | exact pick_upto (by omega) | exact pick_run (by omega) (by omega) (by omega)) ?_ (by with_unfolding_all rfl) (by kmk_pure) (by (rw [List.size_toArray, sizeLine_eq]; omega)); intro D'zz h'zz F'zz N'zz l1zz; (try k_lt l1zz); (try k_sweep))))
  k_with "my len list" => ((k_here; (with_reducible show wpAny _ _ (call (Value.builtin "len") [Value.ref _]) _ _ _); k_dflt (refine' kst_len (by k_asm) (by k_mem) (by rfl) (by omega) ?_; k_whole)))
  k_with "my mul list" => ((k_here; (with_reducible show wpAny _ _ (binaryOp Operator.Mult (Value.ref _) (Value.int _ _)) _ _ _); k_dflt (refine' KMa.mul (by k_asm) (by k_asm) (by k_extra "my list") (by omega) (by omega) (by (simp only [List.length_cons, List.length_nil]; omega)) (by first | exact flat1 _ _ | rfl) ?_; k_whole; intro D'zz h'zz F'zz N'zz l1zz; (try k_lt l1zz); (try k_sweep))))
  k_with "my add list" => ((k_here; (with_reducible show wpAny _ _ (binaryOp _ (Value.ref _) (Value.ref _)) _ _ _); k_dflt (refine' kmk_add_lit (by k_asm) (by k_asm) (by k_extra "my list") (by k_extra "my list") (by rfl) ?_ (by (rw [sizeLine_eq]; (try simp only [List.toList_toArray, List.length_take, List.length_append, List.length_replicate, List.length_cons, List.length_nil]); omega)); intro D'zz h'zz F'zz N'zz l1zz; (try k_lt l1zz); (try k_sweep))))
  k_with "my @LPost" => ((dsimp only [LPost]))
  k_with "my tailmem" => (first | assumption | exact List.Mem.head _ | (refine List.Mem.tail _ ?_; k_extra "my tailmem") | (refine List.mem_append.mpr (Or.inl ?_); k_extra "my tailmem") | (refine List.mem_append.mpr (Or.inr ?_); k_extra "my tailmem"))
  k_with "my sub" => (first | exact List.forall_mem_nil _ | (refine List.forall_mem_cons.mpr ⟨by k_extra "my tailmem", ?_⟩; k_extra "my sub") | (intro p9zz h9zz; k_extra "my tailmem"))
  k_with "my off" => (first | exact List.forall_mem_nil _ | (refine List.forall_mem_cons.mpr ⟨by first | assumption | omega, ?_⟩; k_extra "my off") | assumption | exact ne_of_all (by assumption))
  k_with "my kept" => (first | exact List.forall_mem_nil _ | (refine List.forall_mem_cons.mpr ⟨by with_unfolding_all rfl, ?_⟩; k_extra "my kept"))
  k_with "my for" => ((k_here; (rename Fr _ _ _ _ => lF'zz); (with_unfolding_all refine' For_invVF lF'zz (by exact rfl) (by exact rfl) ?_; k_whole)))
  k_with "my @eval ListComp" => ((k_extra "my comp"))
  k_with "my @CompSrc" => ((refine to_held ?_))
  k_with "my @CompEnd" => ((refine to_held ?_))
  k_with "my @pyIter ref" => ((k_of "item" => refine to_held ?_))
  k_with "my @call ref" => ((k_here; (with_reducible show wpAny _ _ (call (Value.ref 271) _ _) _ _ _); k_dflt (refine' Tell.useQ (by k_asm) (by k_asm) (by k_asm) (by k_asm) (by k_asm) (by first | exact rfl | assumption) (by k_extra "my need") (by exact Nat.le_of_ble_eq_true rfl) (by exact Nat.le_of_ble_eq_true rfl) (items_str _ _ _ _ _ _ _ _ _ _ _ _ _ _ _ (by assumption) (by assumption) (by first | assumption | omega)) ?_; k_whole; intro bzz uszz huszz h'zz tk'zz F'zz N'zz l1zz; (try simp only [List.nil_append, List.cons_append] at N'zz); (have l2zz := difs_of (below1 l1zz); clear l1zz; (try simp only [List.nil_append, List.cons_append] at l2zz)); (try dsimp only); (try k_sweep))))
  k_with "my @call ref" => ((k_here; (with_reducible show wpAny _ _ (call (Value.ref 271) _ _) _ _ _); k_dflt (refine' Tell.useQ (by k_asm) (by k_asm) (by k_asm) (by k_asm) (by k_asm) (by first | exact rfl | assumption) (by k_extra "my need") (by exact Nat.le_of_ble_eq_true rfl) (by exact Nat.le_of_ble_eq_true rfl) (items_int _ _ _ _ _ _ _ _ _ _ _ _ _ _ _ (by assumption) (by assumption) (by assumption) (by first | assumption | omega)) ?_; k_whole; intro bzz uszz huszz h'zz tk'zz F'zz N'zz l1zz; (try simp only [List.nil_append, List.cons_append] at N'zz); (have l2zz := difs_of (below1 l1zz); clear l1zz; (try simp only [List.nil_append, List.cons_append] at l2zz)); (try dsimp only); (try k_sweep))))
  k_with "my @subscriptTail Name Slice ref ref" => ((k_extra "my slice"))
  k_with "my @call builtin:len" => ((k_extra "my len list"))
  k_with "my @binaryOp Mult ref int" => ((k_extra "my mul list"))
  k_with "my @binaryOp Add ref ref" => ((k_extra "my add list"))
  k_with "my @call ref" => ((k_here; (with_reducible show wpAny _ _ (call (Value.ref 412) _ _) _ _ _); k_dflt (refine' Tell.useQ (by k_asm) (by k_asm) (by k_asm) (by k_asm) (by k_asm) (by first | exact rfl | assumption) (by k_extra "my need") (by exact Nat.le_of_ble_eq_true rfl) (by exact Nat.le_of_ble_eq_true rfl) (filled_int _ _ _ _ _ _ _ _ _ _ _ _ _ _ _ _ (by first | assumption | omega) (by assumption) (by first | assumption | ((try simp only [List.length_map]); omega))) ?_; k_whole; intro bzz us'zz n'zz huszz h'zz tk'zz F'zz N'zz l1zz; (try simp only [List.nil_append, List.cons_append] at N'zz); (have l2zz := difs_of (below1 l1zz); clear l1zz; (try simp only [List.nil_append, List.cons_append] at l2zz)); (try dsimp only); (try k_sweep))))
  k_with "my @call ref" => ((k_here; (with_reducible show wpAny _ _ (call (Value.ref 412) _ _) _ _ _); k_dflt (refine' Tell.useQ (by k_asm) (by k_asm) (by k_asm) (by k_asm) (by k_asm) (by first | exact rfl | assumption) (by k_extra "my need") (by exact Nat.le_of_ble_eq_true rfl) (by exact Nat.le_of_ble_eq_true rfl) (filled_str _ _ _ _ _ _ _ _ _ _ _ _ _ _ _ _ (by first | assumption | omega) (by assumption) (by first | assumption | ((try simp only [List.length_map]); omega))) ?_; k_whole; intro bzz us'zz n'zz huszz h'zz tk'zz F'zz N'zz l1zz; (try simp only [List.nil_append, List.cons_append] at N'zz); (have l2zz := difs_of (below1 l1zz); clear l1zz; (try simp only [List.nil_append, List.cons_append] at l2zz)); (try dsimp only); (try k_sweep))))
  k_with "my item" => ((k_here; (with_reducible show wpAny _ _ (subscriptTail _ _ (Value.ref _) (Value.int _ _)) _ _ _); k_dflt (refine' item_lit (by k_asm) (by k_mem) (by first | decide | omega) (by first | decide | omega) (by first | exact rfl | assumption) ?_ (by with_unfolding_all rfl); k_whole)))
  k_with "my @subscriptTail Name Constant ref int" => ((k_extra "my item"))
  k_with "my @call type:str" => ((k_here; (with_reducible show wpAny _ _ (call (Value.type "str") [Value.int _ _]) _ _ _); refine str_small (by omega) (by omega) ?_))
  k_with "my @GrowPost" => ((dsimp only [GrowPost]))
  k_with "my @getMethod ref" => ((k_here; (with_reducible show wpAny _ _ (getMethod (Value.ref _) (Str.ofString "get") _) _ _ _); k_dflt (refine kdg_method (knd := PySem.strKind _ _) (by k_asm) (by k_mem) (by k_asm) ?_)))
  k_with "my @call builtin:dict.get" => ((k_here; k_dflt (first | refine kdg_get1 (knd := PySem.strKind _ _) (by k_asm) (by k_mem) (by k_asm) (by k_asm) (strKind_is _ _ _ _) (some _) (by rfl) ?_ | refine kdg_get1 (knd := PySem.strKind _ _) (by k_asm) (by k_mem) (by k_asm) (by k_asm) (strKind_is _ _ _ _) none (by rfl) ?_); (try dsimp only [Option.getD])))
  k_with "my @compareOp NotIn str ref" => ((k_here; k_dflt (first | refine kdg_notin (knd := PySem.strKind _ _) (by k_asm) (by k_mem) (by k_asm) (by k_asm) (strKind_is _ _ _ _) true (by rfl) ?_ | refine kdg_notin (knd := PySem.strKind _ _) (by k_asm) (by k_mem) (by k_asm) (by k_asm) (strKind_is _ _ _ _) false (by rfl) ?_); (try dsimp only [Bool.not_true, Bool.not_false])))
  k_with "my @call builtin:list.append" => ((k_here; (with_reducible show wpAny _ _ (call (Value.builtin "list.append") [Value.ref _, _]) _ _ _); k_dflt (refine' append_K (by k_asm) (by k_asm) (by k_upd) ?_ (by (rw [List.size_toArray, sizeLine_eq]; (try simp only [List.length_append, List.length_map, List.length_cons, List.length_nil]); omega)); k_whole; intro h'zz F'zz N'zz; (try simp only [List.toList_toArray] at N'zz); (try k_sweep))))
  trivial
theorem off_P1 : True := by
  w_top off
  trivial
-- part P1
abbrev layD (P : Params) (t1 t2 t3 t4 t5 t6 t7 : Tok) (r cs rn cn : Value) : Obj :=
  dictOf [⟨PyData.keyHash P (Str.ofString "rows"), .str (Str.ofString "rows") t1, r⟩, ⟨PyData.keyHash P (Str.ofString "columns"), .str (Str.ofString "columns") t2, cs⟩, ⟨PyData.keyHash P (Str.ofString "row_names"), .str (Str.ofString "row_names") t3, rn⟩,
    ⟨PyData.keyHash P (Str.ofString "column_names"), .str (Str.ofString "column_names") t4, cn⟩, ⟨PyData.keyHash P (Str.ofString "row_title"), .str (Str.ofString "row_title") t5, .none⟩, ⟨PyData.keyHash P (Str.ofString "column_title"), .str (Str.ofString "column_title") t6, .none⟩, ⟨PyData.keyHash P (Str.ofString "to_left"), .str (Str.ofString "to_left") t7, .bool false⟩] 7
theorem layout_ (w : World) (r cs : Value) :
  Tell 700 1300 w 333 [r, cs] [] [] [] (fun R => ∀ x dx t1 t2 t3 t4 t5 t6 t7, Dif dx x → R (.ref x) [] [(x, instObj 333 dx), (dx, layD w.params t1 t2 t3 t4 t5 t6 t7 r cs .none .none)]) := by
  unfold Tell
  intro p loose mean mg mb gd cn cs ca ccd cl outer A₀ base h₀ L m news s Q E B F X N T hk hsep hret
  simp only [List.nil_append] at N
  walk_at "tell class"
  try k_fold
  k_steps
  exact hret _ _ _ _ _ _ _ _ _ (Nat.ne_of_lt (by assumption)) _ _ (by assumption) (by assumption) (vec_above (by assumption) (by assumption))
def rowLabs (r : Nat) : List Str := (List.range r).map fun (i : Nat) => Str.ofString (toString ((i : Int) + 1))
theorem lab_keep {lab : Str} (h : lab.length = 1) : Txt.mul (Str.ofString " ") 0 ++ Txt.ljust lab 1 = lab := by
  have e : Txt.mul (Str.ofString " ") 0 = Str.empty := by decide +kernel
  rw [e]
  unfold Txt.ljust
  rw [if_pos (by omega)]
  exact Str.ext' (by rw [Str.cps_append]; exact Array.empty_append)
theorem lroom1 (w : World) (x dx rn : Addr) (rv cv cnv : Value) (t : Tok) (n : Nat) (t1 t2 t3 t4 t5 t6 t7 : Tok) :
  Tell 800 1600 w 356 [.ref x] [] [(x, instObj 333 dx), (dx, layD w.params t1 t2 t3 t4 t5 t6 t7 rv cv (.ref rn) cnv), (rn, lst [.str (Str.ofString "1") t] n)] [] (fun R => ∀ tk, R (.int 1 tk) [] []) := by
  unfold Tell
  intro p loose mean mg mb gd cn cs ca ccd cl outer A₀ base h₀ L m news s Q E B F X N T hk hsep hret
  simp only [List.cons_append, List.nil_append] at N
  walk_at "tell enter"
  try k_fold
  k_steps
  exact hret' (hret _) (by decide) (by assumption) (drop_to (by assumption) (by k_extra "my sub"))
theorem lroom2 (w : World) (x dx rn : Addr) (rv cv cnv : Value) (t u : Tok) (n : Nat) (t1 t2 t3 t4 t5 t6 t7 : Tok) :
  Tell 800 1600 w 356 [.ref x] [] [(x, instObj 333 dx), (dx, layD w.params t1 t2 t3 t4 t5 t6 t7 rv cv (.ref rn) cnv), (rn, lst [.str (Str.ofString "1") t, .str (Str.ofString "2") u] n)] [] (fun R => ∀ tk, R (.int 1 tk) [] []) := by
  unfold Tell
  intro p loose mean mg mb gd cn cs ca ccd cl outer A₀ base h₀ L m news s Q E B F X N T hk hsep hret
  simp only [List.cons_append, List.nil_append] at N
  walk_at "tell enter"
  try k_fold
  k_steps
  exact hret' (hret _) (by decide) (by assumption) (drop_to (by assumption) (by k_extra "my sub"))
theorem lroom_ (w : World) (x dx rn : Addr) (rv cv cnv : Value) (us : List Value) (r : Int) (n : Nat) (t1 t2 t3 t4 t5 t6 t7 : Tok) (hr : r = 1 ∨ r = 2) (hu : StrsAre us (rowLabs r.toNat)) :
  Tell 800 1600 w 356 [.ref x] [] [(x, instObj 333 dx), (dx, layD w.params t1 t2 t3 t4 t5 t6 t7 rv cv (.ref rn) cnv), (rn, lst us n)] [] (fun R => ∀ tk, R (.int 1 tk) [] []) := by
  rcases hr with rfl | rfl
  · have e : rowLabs (Int.toNat 1) = [Str.ofString "1"] := by decide +kernel
    rw [e] at hu
    cases hu with
    | cons _ t h => cases h; exact lroom1 w x dx rn rv cv cnv t n t1 t2 t3 t4 t5 t6 t7
  · have e : rowLabs (Int.toNat 2) = [Str.ofString "1", Str.ofString "2"] := by decide +kernel
    rw [e] at hu
    cases hu with
    | cons _ t h => cases h with
      | cons _ u h => cases h; exact lroom2 w x dx rn rv cv cnv t u n t1 t2 t3 t4 t5 t6 t7
theorem roff_ (w : World) (x dx : Addr) (rv cv rnv cnv : Value) (t1 t2 t3 t4 t5 t6 t7 : Tok) :
  Tell 800 1600 w 349 [.ref x] [] [(x, instObj 333 dx), (dx, layD w.params t1 t2 t3 t4 t5 t6 t7 rv cv rnv cnv)] [] (fun R => ∀ tk, R (.int 0 tk) [] []) := by
  unfold Tell
  intro p loose mean mg mb gd cn cs ca ccd cl outer A₀ base h₀ L m news s Q E B F X N T hk hsep hret
  simp only [List.cons_append, List.nil_append] at N
  walk_at "tell enter"
  try k_fold
  k_steps
  exact hret _ _ _ (by assumption) (drop_to (by assumption) (by k_extra "my sub")) above0
theorem ln_P11 : True := by
  k_with "my @subscriptTail Name Name ref int" => ((k_extra "my item"))
  trivial
theorem chead_ (w : World) (x dx cn : Addr) (rv cv rnv : Value) (hv : List Value) (h : Str) (k : Int) (t u : Tok) (n : Nat) (t1 t2 t3 t4 t5 t6 t7 : Tok) (h0 : 0 ≤ k) (h1 : k ≤ 10) (hh : hv[k.toNat]? = some (.str h t)) :
  Tell 800 1600 w 370 [.ref x, .int k u] [] [(x, instObj 333 dx), (dx, layD w.params t1 t2 t3 t4 t5 t6 t7 rv cv rnv (.ref cn)), (cn, lst hv n)] [] (fun R => ∀ tk, R (.str h tk) [] []) := by
  unfold Tell
  intro p loose mean mg mb gd cn0 cs ca ccd cl outer A₀ base h₀ L m news s Q E B F X N T hk hsep hret
  simp only [List.cons_append, List.nil_append] at N
  walk_at "tell enter"
  try k_fold
  k_steps
  exact hret _ _ _ (by assumption) (drop_to (by assumption) (by k_extra "my sub")) above0
def HidP (P : Prop) : Prop := P
theorem hid_of {P : Prop} (h : HidP P) : P := h
theorem ln_P12 : True := by
  k_with "my @call ref" => ((k_here; (with_reducible show wpAny _ _ (call (Value.ref 356) _ _) _ _ _); k_dflt (refine' Tell.useQ (by k_asm) (by k_asm) (by k_asm) (by k_asm) (by k_asm) (by first | exact rfl | assumption) (by k_extra "my need") (by exact Nat.le_of_ble_eq_true rfl) (by exact Nat.le_of_ble_eq_true rfl) (lroom_ _ _ _ _ _ _ _ _ _ _ _ _ _ _ _ _ _ (by first | assumption | exact hid_of (by assumption)) (by assumption)) ?_; k_whole; intro tkzz h'zz tk'zz F'zz N'zz l1zz; (try simp only [List.nil_append, List.cons_append] at N'zz); clear l1zz; (try dsimp only); (try k_sweep))))
  k_with "my @call ref" => ((k_here; (with_reducible show wpAny _ _ (call (Value.ref 349) _ _) _ _ _); k_dflt (refine' Tell.useQ (by k_asm) (by k_asm) (by k_asm) (by k_asm) (by k_asm) (by first | exact rfl | assumption) (by k_extra "my need") (by exact Nat.le_of_ble_eq_true rfl) (by exact Nat.le_of_ble_eq_true rfl) (roff_ _ _ _ _ _ _ _ _ _ _ _ _ _ _ ) ?_; k_whole; intro tkzz h'zz tk'zz F'zz N'zz l1zz; (try simp only [List.nil_append, List.cons_append] at N'zz); clear l1zz; (try dsimp only); (try k_sweep))))
  k_with "my @call ref" => ((k_here; (with_reducible show wpAny _ _ (call (Value.ref 370) _ _) _ _ _); k_dflt (refine' Tell.useQ (by k_asm) (by k_asm) (by k_asm) (by k_asm) (by k_asm) (by first | exact rfl | assumption) (by k_extra "my need") (by exact Nat.le_of_ble_eq_true rfl) (by exact Nat.le_of_ble_eq_true rfl) (chead_ _ _ _ _ _ _ _ _ _ _ _ _ _ _ _ _ _ _ _ _ (by omega) (by omega) (by assumption)) ?_; k_whole; intro tkzz h'zz tk'zz F'zz N'zz l1zz; (try simp only [List.nil_append, List.cons_append] at N'zz); clear l1zz; (try dsimp only); (try k_sweep))))
  trivial
theorem rlabel_ (w : World) (x dx rn : Addr) (rv cv cnv : Value) (us : List Value) (r : Int) (lab : Str) (k : Int) (t u : Tok) (n : Nat) (t1 t2 t3 t4 t5 t6 t7 : Tok) (hr : HidP (r = 1 ∨ r = 2)) (hu : StrsAre us (rowLabs r.toNat)) (h0 : 0 ≤ k) (h1 : k ≤ 10) (hh : us[k.toNat]? = some (.str lab t)) (hl : lab.length = 1) :
  Tell 700 1300 w 363 [.ref x, .int k u] [] [(x, instObj 333 dx), (dx, layD w.params t1 t2 t3 t4 t5 t6 t7 rv cv (.ref rn) cnv), (rn, lst us n)] [] (fun R => ∀ tk, R (.str lab tk) [] []) := by
  unfold Tell
  intro p loose mean mg mb gd cn cs ca ccd cl outer A₀ base h₀ L m news s Q E B F X N T hk hsep hret
  simp only [List.cons_append, List.nil_append] at N
  walk_at "tell enter"
  try k_fold
  k_steps
  rw [lab_keep hl]
  exact hret _ _ _ (by assumption) (drop_to (by assumption) (by k_extra "my sub")) above0
theorem reg_P2 : True := by
  k_with "my fold" => k_fold
  trivial
theorem off_P2 : True := by
  w_top off
  trivial
-- part P2
theorem ln_P21 : True := by
  k_with "my @pyIter ref" => ((k_of "place" => refine to_held ?_))
  k_with "my @pyIter ref" => ((k_of "row" => refine to_held ?_))
  trivial
/-- columns of texts -/
def ColsIn (g : Led) (cvs : List Value) (cols : List (List Str)) : Prop :=
  cvs.length = cols.length ∧ ∀ (j : Nat) (xs : List Str), cols[j]? = some xs → ∃ l us n, cvs[j]? = some (.ref l) ∧ (l, lst us n) ∈ g ∧ StrsAre us xs
def cellsOf (xs : List Str) (ws : List Int) : List Str := List.zipWith (fun h k => Str.ofString " " ++ Txt.rjust h k) xs ws
theorem strs_get : ∀ {vs : List Value} {ys : List Str} {i : Nat}, StrsAre vs ys → i < ys.length → ∃ y t, vs[i]? = some (.str y t) ∧ ys[i]? = some y
  | _, _, i, .nil, h => absurd h (Nat.not_lt_zero _)
  | _, _, 0, .cons x t _, _ => ⟨x, t, rfl, rfl⟩
  | _, _, i + 1, .cons x t r, h => by
    obtain ⟨y, t, h1, h2⟩ := strs_get r (Nat.lt_of_succ_lt_succ h)
    exact ⟨y, t, by simpa using h1, by simpa using h2⟩
theorem ints_get : ∀ {vs : List Value} {ys : List Int} {i : Nat}, IntsAre vs ys → i < ys.length → ∃ y t, vs[i]? = some (.int y t) ∧ ys[i]? = some y
  | _, _, i, .nil, h => absurd h (Nat.not_lt_zero _)
  | _, _, 0, .cons x t _, _ => ⟨x, t, rfl, rfl⟩
  | _, _, i + 1, .cons x t r, h => by
    obtain ⟨y, t, h1, h2⟩ := ints_get r (Nat.lt_of_succ_lt_succ h)
    exact ⟨y, t, by simpa using h1, by simpa using h2⟩
theorem zip_get {xs : List Str} {ws : List Int} {i : Nat} {y : Str} {k : Int} (h1 : xs[i]? = some y) (h2 : ws[i]? = some k) : (cellsOf xs ws)[i]? = some (Str.ofString " " ++ Txt.rjust y k) := by
  simp [cellsOf, List.getElem?_zipWith, h1, h2]
theorem take_step {α : Type} {l : List α} {i : Nat} {y : α} (h : l[i]? = some y) : l.take (i + 1) = l.take i ++ [y] := by
  rw [List.take_add_one, h]; rfl
theorem cells_len {xs : List Str} {ws : List Int} {c : Nat} (h1 : xs.length = c) (h2 : ws.length = c) : (cellsOf xs ws).length = c := by simp [cellsOf, h1, h2]
theorem cells_bd {xs : List Str} {ws : List Int} (h1 : ∀ z ∈ xs, z.length ≤ 20) (h2 : ∀ k ∈ ws, 0 ≤ k ∧ k ≤ 30) : ∀ y ∈ cellsOf xs ws, y.length ≤ 100000 := by
  intro y hy
  try k_fold
  obtain ⟨i, hi, rfl⟩ := List.mem_iff_getElem.mp hy
  have hx : i < xs.length := by simp [cellsOf] at hi; omega
  have hw : i < ws.length := by simp [cellsOf] at hi; omega
  have a1 := h1 _ (List.getElem_mem hx)
  have a2 := h2 _ (List.getElem_mem hw)
  simp only [cellsOf, List.getElem_zipWith, Str.length_append, rjust_len, len_space]
  omega
def HC (c : Nat) : Prop := 1 ≤ c ∧ c ≤ 6
theorem hc_small {c : Nat} (h : HC c) : Builtin.Range.small 0 (c : Int) 1 = true ∧ Builtin.Range.rangeSize 0 (c : Int) 1 = (c : Int) := by
  obtain ⟨h0, h1⟩ := h
  have : c = 1 ∨ c = 2 ∨ c = 3 ∨ c = 4 ∨ c = 5 ∨ c = 6 := by omega
  rcases this with rfl | rfl | rfl | rfl | rfl | rfl <;> decide
theorem ln_P22 : True := by
  k_with "my @call builtin:str.join" => ((k_here; (with_reducible show wpAny _ _ (call (Value.builtin "str.join") [Value.str _ _, Value.ref _]) _ _ _); k_dflt (refine' k_join (by k_asm) (by k_mem) (by (with_unfolding_all assumption)) (by assumption) (by first | assumption | omega) ?_; k_whole; intro _ _)))
  k_with "my @call ref" => ((k_here; (with_reducible show wpAny _ _ (call (Value.ref 363) _ _) _ _ _); k_dflt (refine' Tell.useQ (by k_asm) (by k_asm) (by k_asm) (by k_asm) (by k_asm) (by first | exact rfl | assumption) (by k_extra "my need") (by exact Nat.le_of_ble_eq_true rfl) (by exact Nat.le_of_ble_eq_true rfl) (rlabel_ _ _ _ _ _ _ _ _ _ _ _ _ _ _ _ _ _ _ _ _ _ (by assumption) (by assumption) (by omega) (by omega) (by assumption) (by assumption)) ?_; k_whole; intro tkzz h'zz tk'zz F'zz N'zz l1zz; (try simp only [List.nil_append, List.cons_append] at N'zz); clear l1zz; (try dsimp only); (try k_sweep))))
  k_with "my item2" => ((k_here; (with_reducible show wpAny _ _ (subscriptTail _ _ (Value.ref _) (Value.int _ _)) _ _ _); k_dflt (refine' item_lit (by k_asm) (by k_extra "my tailmem") (by first | decide | omega) (by first | decide | omega) (by first | exact rfl | assumption) ?_ (by with_unfolding_all rfl); k_whole)))
  k_with "my @subscriptTail Name Name ref int" => (first | k_extra "my item" | k_extra "my item2")
  trivial
def lineOf (lab : Str) (xs : List Str) (ws : List Int) : Str := Txt.join (Str.ofString "") (lab :: cellsOf xs ws)
def rowOf (cols : List (List Str)) (i : Nat) : List Str := cols.map fun xs => xs.getD i Str.empty
def rowLine (cols : List (List Str)) (ws : List Int) (i : Nat) : Str := lineOf (Str.ofString (toString ((i : Int) + 1))) (rowOf cols i) ws
theorem rowLabs_get {r : Int} {i : Nat} (h1 : 1 ≤ r) (h2 : r ≤ 2) (h : i < r.toNat) : (rowLabs r.toNat)[i]? = some (Str.ofString (toString ((i : Int) + 1))) ∧ (Str.ofString (toString ((i : Int) + 1))).length = 1 := by
  have hi : i = 0 ∨ i = 1 := by omega
  refine ⟨by simp [rowLabs, h], ?_⟩
  rcases hi with rfl | rfl <;> decide +kernel
theorem rowOf_get {cols : List (List Str)} {i j : Nat} {xs : List Str} {z : Str} (h1 : cols[j]? = some xs) (h2 : xs[i]? = some z) : (rowOf cols i)[j]? = some z := by
  simp [rowOf, h1, h2]
theorem rowOf_bd {cols : List (List Str)} {r : Int} (h : ∀ xs ∈ cols, xs.length = r.toNat ∧ ∀ z ∈ xs, z.length ≤ 20) (i : Nat) : ∀ z ∈ rowOf cols i, z.length ≤ 20 := by
  intro z hz
  try k_fold
  obtain ⟨xs, hx, rfl⟩ := List.mem_map.mp hz
  rw [List.getD_eq_getElem?_getD]
  cases hy : xs[i]? with
  | none => exact Nat.zero_le _
  | some y => exact (h xs hx).2 y (List.mem_of_getElem? hy)
theorem rows_ (w : World) (x dx cs_ cn rn wd : Addr) (cvs hv us wv : List Value) (cols : List (List Str)) (heads : List Str) (ws : List Int) (g : Led) (r : Int) (c : Nat) (t u v0 t1 t2 t3 t4 t5 t6 t7 : Tok) (k1 k2 k3 k4 : Nat)
  (hr : HidP (r = 1 ∨ r = 2)) (hc : HC c) (hcol : ColsIn g cvs cols) (hcl : cols.length = c) (hh : StrsAre hv heads) (hhl : heads.length = c) (hw : IntsAre wv ws) (hwl : ws.length = c) (hu : StrsAre us (rowLabs r.toNat))
  (hb1 : ∀ z ∈ heads, z.length ≤ 20) (hb2 : ∀ k ∈ ws, 0 ≤ k ∧ k ≤ 30) (hb3 : ∀ xs ∈ cols, xs.length = r.toNat ∧ ∀ z ∈ xs, z.length ≤ 20) :
  Tell 600 1000 w 384 [.ref x, .ref wd, .int 0 u, .int c v0] [] ([(x, instObj 333 dx), (dx, layD w.params t1 t2 t3 t4 t5 t6 t7 (.int r t) (.ref cs_) (.ref rn) (.ref cn)), (cs_, lst cvs k1), (rn, lst us k2), (cn, lst hv k3), (wd, lst wv k4)] ++ g) [] (fun R => ∀ b lines k, StrsAre lines (lineOf (Str.ofString " ") heads ws :: (List.range r.toNat).map (rowLine cols ws)) → 1 ≤ lines.length → lines.length ≤ 3 → R (.ref b) [] [(b, lst lines k)]) := by
  unfold Tell
  intro p loose mean mg mb gd cnm cs ca ccd cl outer A₀ base h₀ L m news s Q E B F X N T hk hsep hret
  try k_fold
  simp only [List.cons_append, List.nil_append, List.append_assoc] at N
  have hr1 : 1 ≤ r := by have : r = 1 ∨ r = 2 := hr; omega
  have hr2 : r ≤ 2 := by have : r = 1 ∨ r = 2 := hr; omega
  walk_at "tell enter"
  try k_fold
  k_steps
  refine of_held ?_
  rename IsRange _ _ _ _ _ _ _ _ => lR
  rename News _ _ _ _ => lN
  rename Fr _ _ _ _ => lF
  refine' growR c [_, _, _, _, _, _, _] (g ++ news) [] (fun i pvs g' => g' = [] ∧ StrsAre pvs (Str.ofString " " :: (cellsOf heads ws).take i)) rfl lR (hc_small hc).1 (hc_small hc).2 lF lN ?gA ⟨rfl, .cons _ _ .nil⟩ ?gB ?gC
  case gA => k_extra "my off1"
  case gB =>
    rintro i ti pvs k _ uu h tk I oi hin hoI ⟨rfl, hP⟩ hfo hIg hg F1 N1
    try k_fold
    clear lF lN
    simp only [List.cons_append, List.nil_append] at N1
    try simp only [List.cons_append, List.nil_append] at hoI
    skip
    obtain ⟨y, ty, hy1, hy2⟩ := strs_get hh (hhl.symm ▸ hin)
    obtain ⟨kw, tkw, hk1, hk2⟩ := ints_get hw (hwl.symm ▸ hin)
    have hyl := hb1 y (List.mem_of_getElem? hy2)
    have hkb := hb2 kw (List.mem_of_getElem? hk2)
    have e0 : (0 + (i : Int)).toNat = i := by omega
    have hy3 : hv[(0 + (i : Int)).toNat]? = some (.str y ty) := by rw [e0]; exact hy1
    have hk3 : wv[(0 + (i : Int)).toNat]? = some (.int kw tkw) := by rw [e0]; exact hk1
    have hi6 : i < 6 := Nat.lt_of_lt_of_le hin hc.2
    have hpl : pvs.length ≤ 7 := by
      rw [hP.length, List.length_cons, List.length_take]; omega
    try k_fold
    k_steps
    refine' grow_snoc [] ?FF ?NN ?SS trivial trivial (fun _ h => nomatch h) ?hm ⟨rfl, ?hP⟩
    case FF => assumption
    case NN => assumption
    case SS => simp only [List.cons_append, List.nil_append]; k_extra "my sub"
    case hm => intro z hz1 hz2; simp [kstB, hz1]
    case hP => rw [take_step (zip_get hy2 hk2)]; exact strs_snoc hP
  case gC =>
    rintro pvs k _ uu h tk ⟨rfl, hP⟩ hfo hg F1 N1
    try k_fold
    clear lF lN
    simp only [List.cons_append, List.nil_append] at N1
    have hjl : (Str.ofString " " :: (cellsOf heads ws).take c).length ≤ 100 := by
      rw [List.length_cons, List.length_take]; have := hc.2; omega
    have hjb : ∀ y ∈ Str.ofString " " :: (cellsOf heads ws).take c, y.length ≤ 100000 := by
      intro y hy
      try k_fold
      rcases List.mem_cons.mp hy with rfl | hy
      · decide
      · exact cells_bd hb1 hb2 y (List.mem_of_mem_take hy)
    clear hr1 hr2
    try k_fold
    k_steps
    refine of_held ?_
    rename IsRange _ _ _ _ _ _ _ _ => lR
    rename News _ _ _ _ => lN
    rename Fr _ _ _ _ => lF
    have hr1 : 1 ≤ r := by have : r = 1 ∨ r = 2 := hr; omega
    have hr2 : r ≤ 2 := by have : r = 1 ∨ r = 2 := hr; omega
    have hsr : Builtin.Range.small 0 r 1 = true ∧ Builtin.Range.rangeSize 0 r 1 = (r.toNat : Int) := by have : r = 1 ∨ r = 2 := hr; rcases this with rfl | rfl <;> decide
    have hct : (cellsOf heads ws).take c = cellsOf heads ws := List.take_of_length_le (by rw [cells_len hhl hwl]; exact Nat.le_refl _)
    replace lN := drop_at 0 lN
    simp only [List.eraseIdx_cons_zero] at lN
    refine' growR r.toNat [_, _, _, _, _, _] (g ++ news) [Str.ofString "pieces", Str.ofString "place"] (fun i pvs g' => g' = [] ∧ StrsAre pvs (lineOf (Str.ofString " ") heads ws :: (List.range i).map (rowLine cols ws))) rfl lR hsr.1 hsr.2 lF lN ?gD ⟨rfl, ?gX⟩ ?gE ?gF
    case gX => rw [hct]; exact .cons _ _ .nil
    case gD => k_extra "my off1"
    case gE =>
      rintro i ti pvs2 k2 _ uu2 h2 tk2 I oi hin hoI ⟨rfl, hP2⟩ hfo2 hIg2 hg2 F2 N2
      try k_fold
      clear lF lN
      simp only [List.cons_append, List.nil_append] at N2
      try simp only [List.cons_append, List.nil_append] at hoI
      skip
      obtain ⟨hlb, hll⟩ := rowLabs_get hr1 hr2 hin
      have hi2 : i < 2 := by omega
      clear hr1 hr2 hsr
      have hul : i < (rowLabs r.toNat).length := by simp [rowLabs, hin]
      obtain ⟨y, ty, hy1, hy2⟩ := strs_get hu hul
      rw [hlb] at hy2
      cases hy2
      have e0 : (0 + (i : Int)).toNat = i := by omega
      have hy3 : us[(0 + (i : Int)).toNat]? = some (.str (Str.ofString (toString ((i : Int) + 1))) ty) := by rw [e0]; exact hy1
      try k_fold
      k_steps
      refine of_held ?_
      rename IsRange _ _ _ _ _ _ _ _ => lR
      rename News _ _ _ _ => lN
      rename Fr _ _ _ _ => lF
      refine' growR c [_, _, _, _, _, _, _, _] (g ++ news) [] (fun j pvs g' => g' = [] ∧ StrsAre pvs (Str.ofString (toString ((i : Int) + 1)) :: (cellsOf (rowOf cols i) ws).take j)) rfl lR (hc_small hc).1 (hc_small hc).2 lF lN ?gG ⟨rfl, .cons _ _ .nil⟩ ?gH ?gI
      case gG => k_extra "my off1"
      case gH =>
        rintro j tj pvs k _ uu3 h3 tk3 I3 oi3 hjn hoI ⟨rfl, hP⟩ hfo hIg hg F3 N3
        try k_fold
        clear lF lN
        simp only [List.cons_append, List.nil_append] at N3
        try simp only [List.cons_append, List.nil_append] at hoI
        skip
        obtain ⟨xs, hxs⟩ : ∃ xs, cols[j]? = some xs := ⟨_, List.getElem?_eq_getElem (hcl.symm ▸ hjn)⟩
        obtain ⟨l, us', nn, hc1, hc2, hc3⟩ := hcol.2 j xs hxs
        obtain ⟨hxl, hxb⟩ := hb3 xs (List.mem_of_getElem? hxs)
        obtain ⟨z, tz, hz1, hz2⟩ := strs_get hc3 (hxl.symm ▸ hin)
        obtain ⟨kw, tkw, hk1, hk2⟩ := ints_get hw (hwl.symm ▸ hjn)
        have hyl := hxb z (List.mem_of_getElem? hz2)
        have hkb := hb2 kw (List.mem_of_getElem? hk2)
        have e1 : (0 + (j : Int)).toNat = j := by omega
        have hc4 : cvs[(0 + (j : Int)).toNat]? = some (.ref l) := by rw [e1]; exact hc1
        have hk3 : wv[(0 + (j : Int)).toNat]? = some (.int kw tkw) := by rw [e1]; exact hk1
        have hz3 : us'[(0 + (i : Int)).toNat]? = some (.str z tz) := by rw [e0]; exact hz1
        have hj6 : j < 6 := Nat.lt_of_lt_of_le hjn hc.2
        have hpl : pvs.length ≤ 7 := by
          rw [hP.length, List.length_cons, List.length_take]; omega
        try k_fold
        k_steps
        refine' grow_snoc [] ?FF ?NN ?SS trivial trivial (fun _ h => nomatch h) ?hm ⟨rfl, ?hP⟩
        case FF => assumption
        case NN => assumption
        case SS => simp only [List.cons_append, List.nil_append]; k_extra "my sub"
        case hm => intro z hz1 hz2; simp [kstB, hz1]
        case hP => rw [take_step (zip_get (rowOf_get hxs hz2) hk2)]; exact strs_snoc hP
      case gI =>
        rintro pvs k _ uu3 h3 tk3 ⟨rfl, hP⟩ hfo hg F3 N3
        try k_fold
        clear lF lN
        simp only [List.cons_append, List.nil_append] at N3
        have hcw : (cellsOf (rowOf cols i) ws).take c = cellsOf (rowOf cols i) ws := List.take_of_length_le (by rw [cells_len (by simp [rowOf, hcl]) hwl]; exact Nat.le_refl _)
        rw [hcw] at hP
        have hjl2 : (Str.ofString (toString ((i : Int) + 1)) :: cellsOf (rowOf cols i) ws).length ≤ 100 := by
          rw [List.length_cons, cells_len (by simp [rowOf, hcl]) hwl]; have := hc.2; omega
        have hjb2 : ∀ y ∈ Str.ofString (toString ((i : Int) + 1)) :: cellsOf (rowOf cols i) ws, y.length ≤ 100000 := by
          intro y hy
          try k_fold
          rcases List.mem_cons.mp hy with rfl | hy
          · rw [hll]; decide
          · exact cells_bd (rowOf_bd hb3 i) hb2 y hy
        have hpl : pvs2.length ≤ 5 := by
          rw [hP2.length, List.length_cons, List.length_map, List.length_range]; omega
        try k_fold
        k_steps
        refine' grow_snoc [] ?FF ?NN ?SS trivial trivial (fun _ h => nomatch h) ?hm ⟨rfl, ?hP⟩
        case FF => assumption
        case NN => assumption
        case SS => simp only [List.cons_append, List.nil_append]; k_extra "my sub"
        case hm =>
          intro z hz1 hz2
          try k_fold
          obtain ⟨hz2, hz3⟩ := stored2 hz2
          simp [kstB, hz1, hz2, hz3]
        case hP => rw [List.range_succ, List.map_append, ← List.cons_append]; exact strs_snoc hP2
    case gF =>
      rintro pvs2 k2 _ uu2 h2 tk2 ⟨rfl, hP2⟩ hfo2 hg2 F2 N2
      try k_fold
      clear lF lN
      simp only [List.cons_append, List.nil_append] at N2
      try k_fold
      k_steps
      have hpl := hP2.length
      rw [List.length_cons, List.length_map, List.length_range] at hpl
      refine' hret _ pvs2 _ hP2 (by omega) (by omega) _ _ ?FF (drop_to ?NN ?SS) ?AA
      case FF => assumption
      case NN => assumption
      case SS => k_extra "my sub"
      case AA => exact aboveC (off_right (l := g) hfo2) above0
theorem reg_P3 : True := by
  w_top off
  k_with_none
  k_with "tell start" => ((unfold Tell; intro pzz loosezz meanzz mgzz mbzz gdzz cnzz cszz cazz ccdzz clzz outerzz A₀zz basezz h₀zz Lzz mzz newszz szz Qzz Ezz Bzz Fzz Xzz Nzz Tzz hkzz hsepzz hretzz; simp only [List.cons_append, List.nil_append] at Nzz; walk_at "tell enter"))
  k_with "my @call ref" => ((k_here; (with_reducible show wpAny _ _ (call (Value.ref _) _ _) _ _ _); first | walk_at "tell enter" | walk_at "tell enterC"))
  k_with "my cn" => (first | with_reducible exact And.left | with_reducible exact cn_id | ((with_reducible refine cn_sk ?_); k_extra "my cn"))
  k_with "my conj" => ((k_whole; (with_reducible refine cn_pick (by with_reducible assumption) ?_); k_extra "my cn"))
  k_with "my nn" => (first | with_reducible exact sd1 | with_reducible exact sd2 | with_reducible exact sd3 | with_reducible exact sd4 | with_reducible exact sd5 | with_reducible exact sd6 | with_reducible exact sd7 | with_reducible exact se1 | with_reducible exact se2 | with_reducible exact se3 | with_reducible exact se4 | with_reducible exact se5 | with_reducible exact se6 | with_reducible exact se7 | ((with_reducible refine su ?_); k_extra "my nn"))
  k_with "my lt0" => (first | with_reducible assumption | k_extra "my conj")
  k_with "my hyp" => (first | with_reducible assumption | with_reducible exact And.left (by with_reducible assumption) | with_reducible exact And.right (by with_reducible assumption))
  k_with "my omega" => ((k_whole; first | with_reducible assumption | decide | ((with_reducible show @Ne Nat _ _); first | (k_extra "my nn") | with_reducible exact nu1 (by k_extra "my lt0") | with_reducible exact nu2 (by k_extra "my lt0") | with_reducible exact nu3 (by k_extra "my lt0") | with_reducible exact nu4 (by k_extra "my lt0") | with_reducible exact nu5 (by k_extra "my lt0") | with_reducible exact nu6 (by k_extra "my lt0") | with_reducible exact nu7 (by k_extra "my lt0") | with_reducible exact nv1 (by k_extra "my lt0") | with_reducible exact nv2 (by k_extra "my lt0") | with_reducible exact nv3 (by k_extra "my lt0") | with_reducible exact nv4 (by k_extra "my lt0") | with_reducible exact nv5 (by k_extra "my lt0") | with_reducible exact nv6 (by k_extra "my lt0") | with_reducible exact nv7 (by k_extra "my lt0") | with_reducible exact ne_l (by k_extra "my lt0") | with_reducible exact ne_r (by k_extra "my lt0")) | ((with_reducible show @LE.le Nat _ _ _); first | with_reducible exact qm1 (by k_extra "my hyp") (by k_extra "my hyp") (by first | with_reducible exact mx2 (by with_reducible assumption) (by k_extra "my hyp") (by k_extra "my hyp") | with_reducible exact mx3 (by with_reducible assumption) (by k_extra "my hyp") (by k_extra "my hyp") (by k_extra "my hyp")) (by decide) | with_reducible exact qm2 (by k_extra "my hyp") (by first | with_reducible exact mx2 (by with_reducible assumption) (by k_extra "my hyp") (by k_extra "my hyp") | with_reducible exact mx3 (by with_reducible assumption) (by k_extra "my hyp") (by k_extra "my hyp") (by k_extra "my hyp")) (by decide) | with_reducible exact qn1 (by k_extra "my hyp") (by decide) | with_reducible exact qn2 (by k_extra "my hyp") (by decide) | with_reducible exact qn8 (by k_extra "my hyp") (by k_extra "my hyp") (by decide) | with_reducible exact qn7 (by k_extra "my hyp") (by k_extra "my hyp") (by decide) | with_reducible exact qn10 (by k_extra "my hyp") (by k_extra "my hyp") (by decide) | with_reducible exact qn14 (by k_extra "my hyp") (by k_extra "my hyp") (by decide) | with_reducible exact qn13 (by k_extra "my hyp") (by decide) | with_reducible exact qn5 (by k_extra "my hyp") (by decide) | with_reducible exact qn6 (by k_extra "my hyp") (by k_extra "my hyp") (by decide) | with_reducible exact qn6b (by k_extra "my hyp") (by k_extra "my hyp") (by decide) | with_reducible exact qn6c (by k_extra "my hyp") (by k_extra "my hyp") (by decide) | with_reducible exact qn11 (by k_extra "my hyp") (by decide)) | ((with_reducible show @LT.lt Nat _ _ _); first | with_reducible exact qn3 (by k_extra "my hyp") (by decide) | with_reducible exact qn4 (by k_extra "my hyp") (by decide) | with_reducible exact qn9 (by k_extra "my hyp") (by k_extra "my hyp") (by decide) | with_reducible exact qn12 (by k_extra "my hyp") (by k_extra "my hyp") (by decide)) | ((with_reducible show @LE.le Int _ _ _); first | with_reducible exact qi1 (by k_extra "my hyp") (by decide) | with_reducible exact qi2 (by k_extra "my hyp") (by decide) | with_reducible exact qi5 (by k_extra "my hyp") (by decide) | with_reducible exact qi6 (by k_extra "my hyp") (by decide) | with_reducible exact qc5 (by decide) | with_reducible exact qc2 (by k_extra "my hyp") (by decide) | with_reducible exact qc7 (by decide) | with_reducible exact qc4 (by k_extra "my hyp") (by decide) | with_reducible exact qc11 (by decide) | with_reducible exact qc13 (by k_extra "my hyp") (by decide) | with_reducible exact qq1 (by k_extra "my hyp") (by decide) | with_reducible exact qq2 (by k_extra "my hyp") (by decide) | with_reducible exact qi10 (by k_extra "my hyp") (by decide)) | ((with_reducible show @LT.lt Int _ _ _); first | with_reducible exact mxi2 (by with_reducible assumption) (by k_extra "my hyp") (by k_extra "my hyp") (by decide) | with_reducible exact mxi3 (by with_reducible assumption) (by k_extra "my hyp") (by k_extra "my hyp") (by k_extra "my hyp") (by decide) | with_reducible exact qc14 (by with_reducible assumption) (by decide) | with_reducible exact qi3 (by k_extra "my hyp") (by decide) | with_reducible exact qi4 (by k_extra "my hyp") (by decide) | with_reducible exact qi7 (by k_extra "my hyp") (by decide) | with_reducible exact qi8 (by k_extra "my hyp") (by decide) | with_reducible exact qc6 (by decide) | with_reducible exact qc1 (by k_extra "my hyp") (by decide) | with_reducible exact qc8 (by decide) | with_reducible exact qc3 (by k_extra "my hyp") (by decide) | with_reducible exact qc12 (by decide) | with_reducible exact qc9 (by k_extra "my hyp") (by decide) | with_reducible exact qi9 (by k_extra "my hyp") (by decide)) | ((with_reducible show @Eq Nat _ _); first | with_reducible exact qe1 | with_reducible exact qe2) | ((with_reducible show Not _); first | with_reducible exact qc10 (by k_extra "my hyp") (by decide))))
  k_with "my ne" => (((refine neN ?_); (try dsimp only); first | with_reducible assumption | exact dif_ne (by with_reducible assumption) | exact dif_ne' (by with_reducible assumption) | k_extra "my difne" | with_reducible exact ne_l (by k_extra "my conj") | with_reducible exact ne_r (by k_extra "my conj") | omega))
  k_with "my difne" => (first | (refine difs_pick (by with_reducible assumption) ?_; intro h9zz; first | exact difs_at h9zz 0 rfl | exact difs_at h9zz 1 rfl | exact difs_at h9zz 2 rfl | exact difs_at h9zz 3 rfl | exact difs_at h9zz 4 rfl | exact difs_at h9zz 5 rfl | exact difs_at h9zz 6 rfl | exact difs_at h9zz 7 rfl | exact difs_at h9zz 8 rfl | exact difs_at h9zz 9 rfl | exact difs_at h9zz 10 rfl | exact difs_at h9zz 11 rfl | exact difs_at h9zz 12 rfl | exact difs_at h9zz 13 rfl | exact difs_at h9zz 14 rfl | exact difs_at h9zz 15 rfl | exact difs_at h9zz 16 rfl | exact difs_at h9zz 17 rfl | exact difs_at h9zz 18 rfl | exact difs_at h9zz 19 rfl | exact difs_at h9zz 20 rfl | exact difs_at h9zz 21 rfl | exact difs_at h9zz 22 rfl | exact difs_at h9zz 23 rfl | exact difs_at h9zz 24 rfl | exact difs_at h9zz 25 rfl | exact difs_at h9zz 26 rfl | exact difs_at h9zz 27 rfl | exact difs_at h9zz 28 rfl | exact difs_at h9zz 29 rfl | exact difs_at h9zz 30 rfl | exact difs_at h9zz 31 rfl | exact difs_at h9zz 32 rfl | exact difs_at h9zz 33 rfl | exact difs_at h9zz 34 rfl | exact difs_at h9zz 35 rfl | exact difs_at h9zz 36 rfl | exact difs_at h9zz 37 rfl | exact difs_at h9zz 38 rfl | exact difs_at h9zz 39 rfl) | (refine difs_pick' (by with_reducible assumption) ?_; intro h9zz; first | exact difs_at' h9zz 0 rfl | exact difs_at' h9zz 1 rfl | exact difs_at' h9zz 2 rfl | exact difs_at' h9zz 3 rfl | exact difs_at' h9zz 4 rfl | exact difs_at' h9zz 5 rfl | exact difs_at' h9zz 6 rfl | exact difs_at' h9zz 7 rfl | exact difs_at' h9zz 8 rfl | exact difs_at' h9zz 9 rfl | exact difs_at' h9zz 10 rfl | exact difs_at' h9zz 11 rfl | exact difs_at' h9zz 12 rfl | exact difs_at' h9zz 13 rfl | exact difs_at' h9zz 14 rfl | exact difs_at' h9zz 15 rfl | exact difs_at' h9zz 16 rfl | exact difs_at' h9zz 17 rfl | exact difs_at' h9zz 18 rfl | exact difs_at' h9zz 19 rfl | exact difs_at' h9zz 20 rfl | exact difs_at' h9zz 21 rfl | exact difs_at' h9zz 22 rfl | exact difs_at' h9zz 23 rfl | exact difs_at' h9zz 24 rfl | exact difs_at' h9zz 25 rfl | exact difs_at' h9zz 26 rfl | exact difs_at' h9zz 27 rfl | exact difs_at' h9zz 28 rfl | exact difs_at' h9zz 29 rfl | exact difs_at' h9zz 30 rfl | exact difs_at' h9zz 31 rfl | exact difs_at' h9zz 32 rfl | exact difs_at' h9zz 33 rfl | exact difs_at' h9zz 34 rfl | exact difs_at' h9zz 35 rfl | exact difs_at' h9zz 36 rfl | exact difs_at' h9zz 37 rfl | exact difs_at' h9zz 38 rfl | exact difs_at' h9zz 39 rfl))
  k_with "my ctl" => (first | with_reducible exact ct_all | with_reducible exact ct_left | with_reducible exact ct_right | with_reducible exact ct_nil | with_reducible exact ct_one | ((with_reducible refine ct_keep ?_); k_extra "my ctl") | ((with_reducible refine ct_skip ?_); k_extra "my ctl"))
  k_with "my o3l" => (first | with_reducible exact o3_id | with_reducible exact o3_nil | ((with_reducible refine o3_keep ?_); k_extra "my o3l") | ((with_reducible refine o3_skip ?_); k_extra "my o3l"))
  k_with "my o3" => (first | with_reducible assumption | ((try simp only [List.cons_append, List.nil_append]); refine off3By (by with_reducible assumption) ?_; k_extra "my o3l") | (refine And.intro ⟨by k_ne, by k_ne, by k_ne⟩ ?_; k_extra "my o3"))
  k_with "my okl" => (first | with_reducible exact ok_id | with_reducible exact ok_left | with_reducible exact ok_right | with_reducible exact ok_nil | ((with_reducible refine ok_keep ?_); k_extra "my okl") | ((with_reducible refine ok_skip ?_); k_extra "my okl"))
  k_with "my offtail" => (first | with_reducible exact off_difs (by with_reducible assumption) | exact off_lt (by with_reducible assumption) | exact off_of (by with_reducible assumption) | exact off_all (by with_reducible assumption) | exact off_left (by with_reducible assumption) | exact off_right (by with_reducible assumption) | exact off_lt (all_up (by with_reducible assumption)) | exact off_lt (all_up (all_up (by with_reducible assumption))) | exact off_lt (all_up (all_up (all_up (by with_reducible assumption)))) | exact off_lt (all_up (all_up (all_up (all_up (by with_reducible assumption))))) | exact off_lt (all_up (all_up (all_up (all_up (all_up (by with_reducible assumption)))))) | exact off_lt (all_up (all_up (all_up (all_up (all_up (all_up (by with_reducible assumption))))))) | exact off_lt (And.right (by with_reducible assumption)) | exact And.right (by with_reducible assumption) | exact off_lt (And.right (And.right (by with_reducible assumption))) | exact And.right (And.right (by with_reducible assumption)) | exact off_lt (And.right (And.right (And.right (by with_reducible assumption)))) | exact And.right (And.right (And.right (by with_reducible assumption))) | exact off_lt (And.right (And.right (And.right (And.right (by with_reducible assumption))))) | exact And.right (And.right (And.right (And.right (by with_reducible assumption)))) | exact off_lt (And.right (And.right (And.right (And.right (And.right (by with_reducible assumption)))))) | exact And.right (And.right (And.right (And.right (And.right (by with_reducible assumption))))) | exact off_lt (And.right (And.right (And.right (And.right (And.right (And.right (by with_reducible assumption))))))) | exact And.right (And.right (And.right (And.right (And.right (And.right (by with_reducible assumption)))))) | exact off_lt (And.right (And.right (And.right (And.right (And.right (And.right (And.right (by with_reducible assumption)))))))) | exact And.right (And.right (And.right (And.right (And.right (And.right (And.right (by with_reducible assumption))))))) | exact off_lt (And.right (And.right (And.right (And.right (And.right (And.right (And.right (And.right (by with_reducible assumption))))))))) | exact And.right (And.right (And.right (And.right (And.right (And.right (And.right (And.right (by with_reducible assumption)))))))) | exact off_lt (And.right (And.right (And.right (And.right (And.right (And.right (And.right (And.right (And.right (by with_reducible assumption)))))))))) | exact And.right (And.right (And.right (And.right (And.right (And.right (And.right (And.right (And.right (by with_reducible assumption))))))))) | exact off_lt (And.right (And.right (And.right (And.right (And.right (And.right (And.right (And.right (And.right (And.right (by with_reducible assumption))))))))))) | exact And.right (And.right (And.right (And.right (And.right (And.right (And.right (And.right (And.right (And.right (by with_reducible assumption)))))))))) | exact off_lt (And.right (And.right (And.right (And.right (And.right (And.right (And.right (And.right (And.right (And.right (And.right (by with_reducible assumption)))))))))))) | exact And.right (And.right (And.right (And.right (And.right (And.right (And.right (And.right (And.right (And.right (And.right (by with_reducible assumption))))))))))) | exact off_lt (And.right (And.right (And.right (And.right (And.right (And.right (And.right (And.right (And.right (And.right (And.right (And.right (by with_reducible assumption))))))))))))) | exact And.right (And.right (And.right (And.right (And.right (And.right (And.right (And.right (And.right (And.right (And.right (And.right (by with_reducible assumption)))))))))))) | exact off_lt (And.right (And.right (And.right (And.right (And.right (And.right (And.right (And.right (And.right (And.right (And.right (And.right (And.right (by with_reducible assumption)))))))))))))) | exact And.right (And.right (And.right (And.right (And.right (And.right (And.right (And.right (And.right (And.right (And.right (And.right (And.right (by with_reducible assumption))))))))))))) | exact off_lt (And.right (And.right (And.right (And.right (And.right (And.right (And.right (And.right (And.right (And.right (And.right (And.right (And.right (And.right (by with_reducible assumption))))))))))))))) | exact And.right (And.right (And.right (And.right (And.right (And.right (And.right (And.right (And.right (And.right (And.right (And.right (And.right (And.right (by with_reducible assumption)))))))))))))))
  k_with "my off1" => (first | exact True.intro | with_reducible assumption | exact off_difs (by with_reducible assumption) | (refine offBy (by with_reducible assumption) ?_; k_extra "my okl") | (refine offByC (by with_reducible assumption) ?_; k_extra "my ctl") | (refine And.intro ?_ ?_; (k_extra "my ne"); k_extra "my off1") | k_extra "my offtail")
  k_with "my above" => (first | exact above0 | (simp only [List.nil_append, List.cons_append]; k_extra "my above") | (refine aboveC ?_ ?_; (k_extra "my off1"); (k_extra "my above")))
  k_with "my need" => (first | exact List.forall_mem_nil _ | (refine' List.forall_mem_cons.mpr ⟨(by k_mem), (by k_extra "my need")⟩))
  k_with "my split" => (skip)
  k_with "my @call builtin:list.pop" => ((k_here; k_dflt (refine' pop0 (by k_asm) (by k_asm) (by k_upd) (by first | assumption | (simp only [List.length_cons] at *; omega)) ?_; k_whole); intro h'zz F'zz N'zz; (try dsimp only [List.nil_append, List.cons_append] at N'zz)))
  k_with "my len" => (((try dsimp only); (try simp only [rjust_len, ljust_len, Str.length_append, len_space, len_nil, len_dot]); omega))
  k_with "my @binaryOp Add str str" => ((k_here; (with_reducible show wpAny _ _ (binaryOp Operator.Add (Value.str _ _) (Value.str _ _)) _ _ _); refine add_ (by k_extra "my len") ?_; intro _ _))
  k_with "my strs" => (first | with_reducible assumption | exact StrsAre.nil | (refine' StrsAre.cons _ _ (by k_extra "my strs")))
  k_with "my @call builtin:str.join" => ((k_here; (with_reducible show wpAny _ _ (call (Value.builtin "str.join") [Value.str _ _, Value.ref _]) _ _ _); k_dflt (refine' k_join (by k_asm) (by k_mem) (by (with_unfolding_all k_extra "my strs")) (by k_extra "my each") (by exact Nat.le_of_ble_eq_true rfl) ?_; k_whole; intro _ _)))
  k_with "my tlen" => (first | decide | exact Nat.le_trans (num_len (by omega) (by omega)) (by decide) | k_extra "my len")
  k_with "my each" => (first | assumption | exact List.forall_mem_nil _ | (refine List.forall_mem_cons.mpr ⟨by k_extra "my tlen", ?_⟩; k_extra "my each"))
  k_with "my @compareOp In str str" => ((k_here; refine in_no (by assumption) ?_))
  k_with "my @call builtin:str.isprintable" => ((k_here; refine KXw.isprintable (b := true) (by assumption) ?_))
  k_with "my @WhlIf" => ((refine WhlIf.no (decide_eq_false (by rw [pow18]; omega)) ?_))
  k_with "my @subscriptTail Attribute" => ((k_here; k_dflt (refine kba_turn (value' := PySem.Expr.Name (PySem.Str.ofString "_") ⟨0, 0, 0, 0⟩) (fun _ => rfl) ?_)))
  k_with "my @subscriptTail Subscript" => ((k_here; k_dflt (refine kba_turn (value' := PySem.Expr.Name (PySem.Str.ofString "_") ⟨0, 0, 0, 0⟩) (fun _ => rfl) ?_)))
  k_with "my @execs cons Assign cons" => (first | (k_here; k_gentoks) | ((with_reducible refine wpAny_execs_cons ?_); try dsimp only))
  k_with "my @execs cons" => (first | (k_here; k_gentoks) | ((with_reducible refine wpAny_execs_cons ?_); try dsimp only))
  k_with "my @exec Assign" => ((k_here; (with_reducible show wpAny _ _ (exec (PySem.Stmt.Assign [PySem.Expr.Name _ _] _ _) _) _ _ _); k_dflt (refine wpAny_Assign_Name ?_)))
  k_with "my @exec While" => ((k_here; k_dflt (refine whl_start 100 ?_)))
  k_with "my pull" => (first | exact Pull.head | (refine' Pull.tail (by k_extra "my pull")))
  k_with "my @call ref" => ((k_here; (with_reducible show wpAny _ _ (call (Value.ref 66) _ _) _ _ _); k_dflt (refine' Tell.useQ (by k_asm) (by k_asm) (by k_asm) (by k_asm) (by k_asm) (by first | exact rfl | assumption) (by k_extra "my need") (by exact Nat.le_of_ble_eq_true rfl) (by exact Nat.le_of_ble_eq_true rfl) (whole_ _ _ _ (by omega) (by omega)) ?_; k_whole; intro tkzz h'zz tk'zz F'zz N'zz l1zz; (try simp only [List.nil_append, List.cons_append] at N'zz); clear l1zz; (try dsimp only); (try k_sweep))))
  k_with "my @call ref" => ((k_here; (with_reducible show wpAny _ _ (call (Value.ref 377) _ _) _ _ _); k_dflt (refine' Tell.useQ (by k_asm) (by k_asm) (by k_asm) (by k_asm) (by k_asm) (by first | exact rfl | assumption) (by k_extra "my need") (by exact Nat.le_of_ble_eq_true rfl) (by exact Nat.le_of_ble_eq_true rfl) (padded_ _ _ _ _ _ (by omega) (by omega) (by k_extra "my len")) ?_; k_whole; intro tkzz h'zz tk'zz F'zz N'zz l1zz; (try simp only [List.nil_append, List.cons_append] at N'zz); clear l1zz; (try dsimp only); (try k_sweep))))
  k_with "my @call ref" => ((k_here; (with_reducible show wpAny _ _ (call (Value.ref 243) _ _) _ _ _); k_dflt (refine' Tell.useQ (by k_asm) (by k_asm) (by k_asm) (by k_asm) (by k_asm) (by first | exact rfl | assumption) (by k_extra "my need") (by exact Nat.le_of_ble_eq_true rfl) (by exact Nat.le_of_ble_eq_true rfl) (encode_ _ _ _ (by first | assumption | decide +kernel) (by first | assumption | decide +kernel) (by first | assumption | decide +kernel)) ?_; k_whole; intro tkzz h'zz tk'zz F'zz N'zz l1zz; (try simp only [List.nil_append, List.cons_append] at N'zz); clear l1zz; (try dsimp only); (try k_sweep))))
  k_with "my @call ref" => ((k_here; (with_reducible show wpAny _ _ (call (Value.ref 278) _ _) _ _ _); k_dflt (refine' Tell.useQ (by k_asm) (by k_asm) (by k_asm) (by k_asm) (by k_asm) (by first | exact rfl | assumption) (by k_extra "my need") (by exact Nat.le_of_ble_eq_true rfl) (by exact Nat.le_of_ble_eq_true rfl) (widest2 _ _ _ _ _ _ _ (by k_extra "my len") (by k_extra "my len")) ?_; k_whole; intro tkzz h'zz tk'zz F'zz N'zz l1zz; (try simp only [List.nil_append, List.cons_append] at N'zz); clear l1zz; (try dsimp only); (try k_sweep))))
  k_with "my @call ref" => ((k_here; (with_reducible show wpAny _ _ (call (Value.ref 278) _ _) _ _ _); k_dflt (refine' Tell.useQ (by k_asm) (by k_asm) (by k_asm) (by k_asm) (by k_asm) (by first | exact rfl | assumption) (by k_extra "my need") (by exact Nat.le_of_ble_eq_true rfl) (by exact Nat.le_of_ble_eq_true rfl) (widest1 _ _ _ _ _ (by k_extra "my len")) ?_; k_whole; intro tkzz h'zz tk'zz F'zz N'zz l1zz; (try simp only [List.nil_append, List.cons_append] at N'zz); clear l1zz; (try dsimp only); (try k_sweep))))
  k_with "my @call ref" => ((k_here; (with_reducible show wpAny _ _ (call (Value.ref 199) [_, _, _] _) _ _ _); k_dflt (refine' Tell.useQ (by k_asm) (by k_asm) (by k_asm) (by k_asm) (by k_asm) (by first | exact rfl | assumption) (by k_extra "my need") (by exact Nat.le_of_ble_eq_true rfl) (by exact Nat.le_of_ble_eq_true rfl) (vector3 _ _ _ _) ?_; k_whole; intro xzz dxzz t1zz t2zz t3zz t4zz t5zz hxzz h'zz tk'zz F'zz N'zz l1zz; (try simp only [List.nil_append, List.cons_append] at N'zz); (have l2zz := difs_of (below2 l1zz).1; have l3zz := difs_of (below2 l1zz).2; clear l1zz; (try simp only [List.nil_append, List.cons_append] at l2zz l3zz); skip); (try dsimp only); (try k_sweep))))
  k_with "my @call ref" => ((k_here; (with_reducible show wpAny _ _ (call (Value.ref 199) [_, _] _) _ _ _); k_dflt (refine' Tell.useQ (by k_asm) (by k_asm) (by k_asm) (by k_asm) (by k_asm) (by first | exact rfl | assumption) (by k_extra "my need") (by exact Nat.le_of_ble_eq_true rfl) (by exact Nat.le_of_ble_eq_true rfl) (vector2 _ _ _) ?_; k_whole; intro xzz dxzz t1zz t2zz t3zz t4zz t5zz hxzz h'zz tk'zz F'zz N'zz l1zz; (try simp only [List.nil_append, List.cons_append] at N'zz); (have l2zz := difs_of (below2 l1zz).1; have l3zz := difs_of (below2 l1zz).2; clear l1zz; (try simp only [List.nil_append, List.cons_append] at l2zz l3zz); skip); (try dsimp only); (try k_sweep))))
  k_with "my @call ref" => ((k_here; (with_reducible show wpAny _ _ (call (Value.ref 439) [_, _] _) _ _ _); k_dflt (refine' Tell.use2 (by k_asm) (by k_asm) (by k_asm) (by (refine' pull1 (by k_asm) (by k_extra "my pull"))) (by k_asm) (by first | exact rfl | assumption) (by (refine mt1 ?_; k_all)) (by exact Nat.le_of_ble_eq_true rfl) (by exact Nat.le_of_ble_eq_true rfl) (plum_ _ _ _ _ _ _ _ (by assumption) (by assumption) (by omega) (by omega)) ?_; k_whole; intro tkzz rzz vs'zz ns'zz n'zz hi'zz hl'zz h0zz h1zz h'zz tk'zz F'zz N'zz l1zz; (try simp only [List.nil_append, List.cons_append] at N'zz); clear l1zz; (try dsimp only); (try k_sweep))))
  k_with "my @call ref" => ((k_here; (with_reducible show wpAny _ _ (call (Value.ref 265) _ _) _ _ _); k_dflt (refine' Tell.useQ (by k_asm) (by k_asm) (by k_asm) (by k_asm) (by k_asm) (by first | exact rfl | assumption) (by k_extra "my need") (by exact Nat.le_of_ble_eq_true rfl) (by exact Nat.le_of_ble_eq_true rfl) (fmt_int _ _ _ _ _ (by omega) (by omega)) ?_; k_whole; intro tkzz h'zz tk'zz F'zz N'zz l1zz; (try simp only [List.nil_append, List.cons_append] at N'zz); clear l1zz; (try dsimp only); (try k_sweep))))
  k_with "my @call ref" => ((k_here; (with_reducible show wpAny _ _ (call (Value.ref 265) _ _) _ _ _); k_dflt (refine' Tell.useQ (by k_asm) (by k_asm) (by k_asm) (by k_asm) (by k_asm) (by first | exact rfl | assumption) (by k_extra "my need") (by exact Nat.le_of_ble_eq_true rfl) (by exact Nat.le_of_ble_eq_true rfl) (fmt_str _ _ _ _ _ (by first | assumption | decide +kernel) (by first | assumption | decide +kernel) (by first | assumption | decide +kernel)) ?_; k_whole; intro tkzz h'zz tk'zz F'zz N'zz l1zz; (try simp only [List.nil_append, List.cons_append] at N'zz); clear l1zz; (try dsimp only); (try k_sweep))))
  k_with "my @call ref" => ((k_here; (with_reducible show wpAny _ _ (call (Value.ref 231) _ _) _ _ _); k_dflt (refine' Tell.useQ (by k_asm) (by k_asm) (by k_asm) (by k_asm) (by k_asm) (by first | exact rfl | assumption) (by k_extra "my need") (by exact Nat.le_of_ble_eq_true rfl) (by exact Nat.le_of_ble_eq_true rfl) (grown_ _ _ _ _ _ (by omega) (by omega) (by k_extra "my len")) ?_; k_whole; intro tkzz h'zz tk'zz F'zz N'zz l1zz; (try simp only [List.nil_append, List.cons_append] at N'zz); clear l1zz; (try dsimp only); (try k_sweep))))
  k_with "my comp" => ((k_here; k_dflt (refine LCg.ListComp_U (F₀ := by k_asm) (by with_unfolding_all rfl) (by decide) (by rfl) (by decide) (by rfl) ?_)))
  k_with "my o3c" => (((try simp only [List.cons_append, List.nil_append]); refine off3By (by with_reducible assumption) ?_; k_extra "my o3l"))
  k_with "my offs" => (first | exact True.intro | k_extra "my o3c" | (k_whole; refine And.intro ⟨by k_ne, by k_ne, by k_ne⟩ ?_; k_extra "my offs") | assumption)
  k_with "my list" => (exact News.isList (by k_asm) (by k_mem))
  k_with "my slice" => ((k_here; (with_reducible show wpAny _ _ (subscriptTail _ (PySem.Expr.Slice _ _ none _) (Value.ref _) (Value.ref _)) _ _ _); k_dflt (refine' kms_slice_lit (by k_asm) (by k_asm) (by k_extra "my list") (by kmk_part) (by kmk_part) (by first | exact pick_upto (by omega) | exact pick_run (by omega) (by omega) (by omega)) ?_ (by with_unfolding_all rfl) (by kmk_pure) (by (rw [List.size_toArray, sizeLine_eq]; omega)); intro D'zz h'zz F'zz N'zz l1zz; (try k_lt l1zz); (try k_sweep))))
  k_with "my len list" => ((k_here; (with_reducible show wpAny _ _ (call (Value.builtin "len") [Value.ref _]) _ _ _); k_dflt (refine' kst_len (by k_asm) (by k_mem) (by rfl) (by omega) ?_; k_whole)))
  k_with "my mul list" => ((k_here; (with_reducible show wpAny _ _ (binaryOp Operator.Mult (Value.ref _) (Value.int _ _)) _ _ _); k_dflt (refine' KMa.mul (by k_asm) (by k_asm) (by k_extra "my list") (by omega) (by omega) (by (simp only [List.length_cons, List.length_nil]; omega)) (by first | exact flat1 _ _ | rfl) ?_; k_whole; intro D'zz h'zz F'zz N'zz l1zz; (try k_lt l1zz); (try k_sweep))))
  k_with "my add list" => ((k_here; (with_reducible show wpAny _ _ (binaryOp _ (Value.ref _) (Value.ref _)) _ _ _); k_dflt (refine' kmk_add_lit (by k_asm) (by k_asm) (by k_extra "my list") (by k_extra "my list") (by rfl) ?_ (by (rw [sizeLine_eq]; (try simp only [List.toList_toArray, List.length_take, List.length_append, List.length_replicate, List.length_cons, List.length_nil]); omega)); intro D'zz h'zz F'zz N'zz l1zz; (try k_lt l1zz); (try k_sweep))))
  k_with "my @LPost" => ((dsimp only [LPost]))
  k_with "my tailmem" => (first | assumption | exact List.Mem.head _ | (refine List.Mem.tail _ ?_; k_extra "my tailmem") | (refine List.mem_append.mpr (Or.inl ?_); k_extra "my tailmem") | (refine List.mem_append.mpr (Or.inr ?_); k_extra "my tailmem"))
  k_with "my sub" => (first | exact List.forall_mem_nil _ | (refine List.forall_mem_cons.mpr ⟨by k_extra "my tailmem", ?_⟩; k_extra "my sub") | (intro p9zz h9zz; k_extra "my tailmem"))
  k_with "my off" => (first | exact List.forall_mem_nil _ | (refine List.forall_mem_cons.mpr ⟨by first | assumption | omega, ?_⟩; k_extra "my off") | assumption | exact ne_of_all (by assumption))
  k_with "my kept" => (first | exact List.forall_mem_nil _ | (refine List.forall_mem_cons.mpr ⟨by with_unfolding_all rfl, ?_⟩; k_extra "my kept"))
  k_with "my for" => ((k_here; (rename Fr _ _ _ _ => lF'zz); (with_unfolding_all refine' For_invVF lF'zz (by exact rfl) (by exact rfl) ?_; k_whole)))
  k_with "my @eval ListComp" => ((k_extra "my comp"))
  k_with "my @CompSrc" => ((refine to_held ?_))
  k_with "my @CompEnd" => ((refine to_held ?_))
  k_with "my @pyIter ref" => ((k_of "item" => refine to_held ?_))
  k_with "my @call ref" => ((k_here; (with_reducible show wpAny _ _ (call (Value.ref 271) _ _) _ _ _); k_dflt (refine' Tell.useQ (by k_asm) (by k_asm) (by k_asm) (by k_asm) (by k_asm) (by first | exact rfl | assumption) (by k_extra "my need") (by exact Nat.le_of_ble_eq_true rfl) (by exact Nat.le_of_ble_eq_true rfl) (items_str _ _ _ _ _ _ _ _ _ _ _ _ _ _ _ (by assumption) (by assumption) (by first | assumption | omega)) ?_; k_whole; intro bzz uszz huszz h'zz tk'zz F'zz N'zz l1zz; (try simp only [List.nil_append, List.cons_append] at N'zz); (have l2zz := difs_of (below1 l1zz); clear l1zz; (try simp only [List.nil_append, List.cons_append] at l2zz)); (try dsimp only); (try k_sweep))))
  k_with "my @call ref" => ((k_here; (with_reducible show wpAny _ _ (call (Value.ref 271) _ _) _ _ _); k_dflt (refine' Tell.useQ (by k_asm) (by k_asm) (by k_asm) (by k_asm) (by k_asm) (by first | exact rfl | assumption) (by k_extra "my need") (by exact Nat.le_of_ble_eq_true rfl) (by exact Nat.le_of_ble_eq_true rfl) (items_int _ _ _ _ _ _ _ _ _ _ _ _ _ _ _ (by assumption) (by assumption) (by assumption) (by first | assumption | omega)) ?_; k_whole; intro bzz uszz huszz h'zz tk'zz F'zz N'zz l1zz; (try simp only [List.nil_append, List.cons_append] at N'zz); (have l2zz := difs_of (below1 l1zz); clear l1zz; (try simp only [List.nil_append, List.cons_append] at l2zz)); (try dsimp only); (try k_sweep))))
  k_with "my @subscriptTail Name Slice ref ref" => ((k_extra "my slice"))
  k_with "my @call builtin:len" => ((k_extra "my len list"))
  k_with "my @binaryOp Mult ref int" => ((k_extra "my mul list"))
  k_with "my @binaryOp Add ref ref" => ((k_extra "my add list"))
  k_with "my @call ref" => ((k_here; (with_reducible show wpAny _ _ (call (Value.ref 412) _ _) _ _ _); k_dflt (refine' Tell.useQ (by k_asm) (by k_asm) (by k_asm) (by k_asm) (by k_asm) (by first | exact rfl | assumption) (by k_extra "my need") (by exact Nat.le_of_ble_eq_true rfl) (by exact Nat.le_of_ble_eq_true rfl) (filled_int _ _ _ _ _ _ _ _ _ _ _ _ _ _ _ _ (by first | assumption | omega) (by assumption) (by first | assumption | ((try simp only [List.length_map]); omega))) ?_; k_whole; intro bzz us'zz n'zz huszz h'zz tk'zz F'zz N'zz l1zz; (try simp only [List.nil_append, List.cons_append] at N'zz); (have l2zz := difs_of (below1 l1zz); clear l1zz; (try simp only [List.nil_append, List.cons_append] at l2zz)); (try dsimp only); (try k_sweep))))
  k_with "my @call ref" => ((k_here; (with_reducible show wpAny _ _ (call (Value.ref 412) _ _) _ _ _); k_dflt (refine' Tell.useQ (by k_asm) (by k_asm) (by k_asm) (by k_asm) (by k_asm) (by first | exact rfl | assumption) (by k_extra "my need") (by exact Nat.le_of_ble_eq_true rfl) (by exact Nat.le_of_ble_eq_true rfl) (filled_str _ _ _ _ _ _ _ _ _ _ _ _ _ _ _ _ (by first | assumption | omega) (by assumption) (by first | assumption | ((try simp only [List.length_map]); omega))) ?_; k_whole; intro bzz us'zz n'zz huszz h'zz tk'zz F'zz N'zz l1zz; (try simp only [List.nil_append, List.cons_append] at N'zz); (have l2zz := difs_of (below1 l1zz); clear l1zz; (try simp only [List.nil_append, List.cons_append] at l2zz)); (try dsimp only); (try k_sweep))))
  k_with "my item" => ((k_here; (with_reducible show wpAny _ _ (subscriptTail _ _ (Value.ref _) (Value.int _ _)) _ _ _); k_dflt (refine' item_lit (by k_asm) (by k_mem) (by first | decide | omega) (by first | decide | omega) (by first | exact rfl | assumption) ?_ (by with_unfolding_all rfl); k_whole)))
  k_with "my @subscriptTail Name Constant ref int" => ((k_extra "my item"))
  k_with "my @call type:str" => ((k_here; (with_reducible show wpAny _ _ (call (Value.type "str") [Value.int _ _]) _ _ _); refine str_small (by omega) (by omega) ?_))
  k_with "my @GrowPost" => ((dsimp only [GrowPost]))
  k_with "my @getMethod ref" => ((k_here; (with_reducible show wpAny _ _ (getMethod (Value.ref _) (Str.ofString "get") _) _ _ _); k_dflt (refine kdg_method (knd := PySem.strKind _ _) (by k_asm) (by k_mem) (by k_asm) ?_)))
  k_with "my @call builtin:dict.get" => ((k_here; k_dflt (first | refine kdg_get1 (knd := PySem.strKind _ _) (by k_asm) (by k_mem) (by k_asm) (by k_asm) (strKind_is _ _ _ _) (some _) (by rfl) ?_ | refine kdg_get1 (knd := PySem.strKind _ _) (by k_asm) (by k_mem) (by k_asm) (by k_asm) (strKind_is _ _ _ _) none (by rfl) ?_); (try dsimp only [Option.getD])))
  k_with "my @compareOp NotIn str ref" => ((k_here; k_dflt (first | refine kdg_notin (knd := PySem.strKind _ _) (by k_asm) (by k_mem) (by k_asm) (by k_asm) (strKind_is _ _ _ _) true (by rfl) ?_ | refine kdg_notin (knd := PySem.strKind _ _) (by k_asm) (by k_mem) (by k_asm) (by k_asm) (strKind_is _ _ _ _) false (by rfl) ?_); (try dsimp only [Bool.not_true, Bool.not_false])))
  k_with "my @call builtin:list.append" => ((k_here; (with_reducible show wpAny _ _ (call (Value.builtin "list.append") [Value.ref _, _]) _ _ _); k_dflt (refine' append_K (by k_asm) (by k_asm) (by k_upd) ?_ (by (rw [List.size_toArray, sizeLine_eq]; (try simp only [List.length_append, List.length_map, List.length_cons, List.length_nil]); omega)); k_whole; intro h'zz F'zz N'zz; (try simp only [List.toList_toArray] at N'zz); (try k_sweep))))
  k_with "my @subscriptTail Name Name ref int" => ((k_extra "my item"))
  k_with "my @call ref" => ((k_here; (with_reducible show wpAny _ _ (call (Value.ref 356) _ _) _ _ _); k_dflt (refine' Tell.useQ (by k_asm) (by k_asm) (by k_asm) (by k_asm) (by k_asm) (by first | exact rfl | assumption) (by k_extra "my need") (by exact Nat.le_of_ble_eq_true rfl) (by exact Nat.le_of_ble_eq_true rfl) (lroom_ _ _ _ _ _ _ _ _ _ _ _ _ _ _ _ _ _ (by first | assumption | exact hid_of (by assumption)) (by assumption)) ?_; k_whole; intro tkzz h'zz tk'zz F'zz N'zz l1zz; (try simp only [List.nil_append, List.cons_append] at N'zz); clear l1zz; (try dsimp only); (try k_sweep))))
  k_with "my @call ref" => ((k_here; (with_reducible show wpAny _ _ (call (Value.ref 349) _ _) _ _ _); k_dflt (refine' Tell.useQ (by k_asm) (by k_asm) (by k_asm) (by k_asm) (by k_asm) (by first | exact rfl | assumption) (by k_extra "my need") (by exact Nat.le_of_ble_eq_true rfl) (by exact Nat.le_of_ble_eq_true rfl) (roff_ _ _ _ _ _ _ _ _ _ _ _ _ _ _ ) ?_; k_whole; intro tkzz h'zz tk'zz F'zz N'zz l1zz; (try simp only [List.nil_append, List.cons_append] at N'zz); clear l1zz; (try dsimp only); (try k_sweep))))
  k_with "my @call ref" => ((k_here; (with_reducible show wpAny _ _ (call (Value.ref 370) _ _) _ _ _); k_dflt (refine' Tell.useQ (by k_asm) (by k_asm) (by k_asm) (by k_asm) (by k_asm) (by first | exact rfl | assumption) (by k_extra "my need") (by exact Nat.le_of_ble_eq_true rfl) (by exact Nat.le_of_ble_eq_true rfl) (chead_ _ _ _ _ _ _ _ _ _ _ _ _ _ _ _ _ _ _ _ _ (by omega) (by omega) (by assumption)) ?_; k_whole; intro tkzz h'zz tk'zz F'zz N'zz l1zz; (try simp only [List.nil_append, List.cons_append] at N'zz); clear l1zz; (try dsimp only); (try k_sweep))))
  k_with "my @pyIter ref" => ((k_of "place" => refine to_held ?_))
  k_with "my @pyIter ref" => ((k_of "row" => refine to_held ?_))
  k_with "my @call builtin:str.join" => ((k_here; (with_reducible show wpAny _ _ (call (Value.builtin "str.join") [Value.str _ _, Value.ref _]) _ _ _); k_dflt (refine' k_join (by k_asm) (by k_mem) (by (with_unfolding_all assumption)) (by assumption) (by first | assumption | omega) ?_; k_whole; intro _ _)))
  k_with "my @call ref" => ((k_here; (with_reducible show wpAny _ _ (call (Value.ref 363) _ _) _ _ _); k_dflt (refine' Tell.useQ (by k_asm) (by k_asm) (by k_asm) (by k_asm) (by k_asm) (by first | exact rfl | assumption) (by k_extra "my need") (by exact Nat.le_of_ble_eq_true rfl) (by exact Nat.le_of_ble_eq_true rfl) (rlabel_ _ _ _ _ _ _ _ _ _ _ _ _ _ _ _ _ _ _ _ _ _ (by assumption) (by assumption) (by omega) (by omega) (by assumption) (by assumption)) ?_; k_whole; intro tkzz h'zz tk'zz F'zz N'zz l1zz; (try simp only [List.nil_append, List.cons_append] at N'zz); clear l1zz; (try dsimp only); (try k_sweep))))
  k_with "my item2" => ((k_here; (with_reducible show wpAny _ _ (subscriptTail _ _ (Value.ref _) (Value.int _ _)) _ _ _); k_dflt (refine' item_lit (by k_asm) (by k_extra "my tailmem") (by first | decide | omega) (by first | decide | omega) (by first | exact rfl | assumption) ?_ (by with_unfolding_all rfl); k_whole)))
  k_with "my @subscriptTail Name Name ref int" => (first | k_extra "my item" | k_extra "my item2")
  k_with "my fold" => k_fold
  trivial
theorem off_P3 : True := by
  w_top off
  trivial
-- part P3
theorem intz_snoc {z : Int} {t : Tok} : ∀ {vs : List Value} {ys : List Int}, IntsAre vs ys → IntsAre (vs ++ [.int z t]) (ys ++ [z])
  | _, _, .nil => .cons z t .nil
  | _, _, .cons y u r => .cons y u (intz_snoc r)
theorem kswC {prog : Program} {w : World} {A : Around} {E : Value → Shared → Prop} {Q : Flow → Shared → Prop} {s : Shared} {env : Env} {h₀ : Heap} {L : Addr} {σ : Type} {test : Expr} {body : List Stmt} {pos : Pos} {m₀ : Str → Option Value} {news : Led} (ps : σ → List (Str × Value)) (stored : List Str) (P : σ → Prop) (μ : σ → Nat) (c₀ : σ)
    (F : Fr h₀ L s.heap m₀) (N : News h₀ L s.heap news) (hk : ∀ p ∈ ps c₀, m₀ p.1 = some p.2) (hp : P c₀)
    (turn : ∀ (c : σ) (u : Str → Option Value) h tk, P c → Fr h₀ L h (kstB (fun z => if stored.contains z then u z else m₀ z) (ps c)) → News h₀ L h news →
      wpAny (model prog w) A (isTrue test env (eval test env)) (fun b s₂ =>
        if b = true then wpAny (model prog w) A (execs body env) (KswPost h₀ L s (fun _ => news) ps (fun _ => True) stored m₀ P μ Q c) E s₂ else Q .next s₂) E { s with heap := h, toks := tk })
    (hE : PassesOwn (model prog w) A env E := by passes_own) :
    wpAny (model prog w) A (exec (.While test body [] pos) env) Q E s :=
  ksw_while (fun _ => news) ps (fun _ => True) stored P μ c₀ F N trivial hk hp (fun c u h tk _ hp F N => turn c u h tk hp F N) hE
theorem ln_P31 : True := by
  k_with "my @KswPost" => ((dsimp only [KswPost]))
  trivial
def mxLen (xs : List Str) : Int := xs.foldl (fun m x => max m (x.length : Int)) 0
theorem widest_any (w : World) (a : Addr) (us : List Value) (xs : List Str) (n : Nat) (hu : StrsAre us xs) (hl : HidP (xs.length = 1 ∨ xs.length = 2)) (hb : ∀ z ∈ xs, z.length ≤ 20) :
  Tell 900 2000 w 278 [.ref a] [] [(a, lst us n)] [] (fun R => ∀ tk, R (.int (mxLen xs) tk) [] []) := by
  cases hu with
  | nil => rcases hl with h | h <;> cases h
  | cons x t hu => cases hu with
    | nil =>
      have e : mxLen [x] = (x.length : Int) := by simp [mxLen]
      rw [e]
      exact widest1 w a x t n (by have := hb x (.head _); omega)
    | cons y u hu => cases hu with
      | nil =>
        have e : mxLen [x, y] = max (x.length : Int) (y.length : Int) := by simp [mxLen]
        rw [e]
        exact widest2 w a x y t u n (by have := hb x (.head _); omega) (by have := hb y (.tail _ (.head _)); omega)
      | cons z v hu => rcases hl with h | h <;> simp at h
theorem mx_bd : ∀ {xs : List Str}, (∀ z ∈ xs, z.length ≤ 10) → 0 ≤ mxLen xs ∧ mxLen xs ≤ 10 := by
  have key : ∀ (xs : List Str) (m : Int), 0 ≤ m → m ≤ 10 → (∀ z ∈ xs, z.length ≤ 10) → 0 ≤ xs.foldl (fun m x => max m (x.length : Int)) m ∧ xs.foldl (fun m x => max m (x.length : Int)) m ≤ 10 := by
    intro xs
    try k_fold
    induction xs with
    | nil => exact fun m h0 h1 _ => ⟨h0, h1⟩
    | cons x r ih =>
      intro m h0 h1 hb
      try k_fold
      have hx := hb x (.head _)
      exact ih (max m (x.length : Int)) (by omega) (by omega) fun z hz => hb z (.tail _ hz)
  exact fun {xs} hb => key xs 0 (Int.le_refl _) (by decide) hb
def widthOf (h : Str) (xs : List Str) : Int := max (mxLen xs) (h.length : Int)
def widthsOf (heads : List Str) (cols : List (List Str)) : List Int := List.zipWith widthOf heads cols
theorem widths_get {heads : List Str} {cols : List (List Str)} {i : Nat} {h : Str} {xs : List Str} (h1 : heads[i]? = some h) (h2 : cols[i]? = some xs) : (widthsOf heads cols)[i]? = some (widthOf h xs) := by
  simp [widthsOf, List.getElem?_zipWith, h1, h2]
theorem ln_P32 : True := by
  k_with "my @call ref" => ((k_here; (with_reducible show wpAny _ _ (call (Value.ref 278) _ _) _ _ _); k_dflt (refine' Tell.useQ (by k_asm) (by k_asm) (by k_asm) (by k_asm) (by k_asm) (by first | exact rfl | assumption) (by (refine List.forall_mem_cons.mpr ⟨?_, List.forall_mem_nil _⟩; k_extra "my tailmem")) (by exact Nat.le_of_ble_eq_true rfl) (by exact Nat.le_of_ble_eq_true rfl) (widest_any _ _ _ _ _ (by assumption) (by assumption) (by assumption)) ?_; k_whole; intro tkzz h'zz tk'zz F'zz N'zz l1zz; (try simp only [List.nil_append, List.cons_append] at N'zz); clear l1zz; (try dsimp only); (try k_sweep))))
  k_with "my needg" => (first | exact List.forall_mem_nil _ | (refine' List.forall_mem_cons.mpr ⟨(by k_extra "my tailmem"), (by k_extra "my needg")⟩) | (intro p9zz h9zz; k_extra "my tailmem"))
  k_with "my @call ref" => ((k_here; (with_reducible show wpAny _ _ (call (Value.ref 384) _ _) _ _ _); k_dflt (refine' Tell.useR (by k_asm) (by k_asm) (by k_asm) (by k_asm) (by k_asm) (by first | exact rfl | assumption) (rows_ _ _ _ _ _ _ _ _ _ _ _ _ _ _ _ _ _ _ _ _ _ _ _ _ _ _ _ _ _ _ _ ?_ ?_ (by assumption) ?_ ?_ ?_ ?_ ?_ ?_ ?_ ?_ ?_) (by (simp only [List.cons_append, List.nil_append]; k_extra "my needg")) (by exact Nat.le_of_ble_eq_true rfl) (by exact Nat.le_of_ble_eq_true rfl) ?_; (try any_goals (refine id_prop ?_; first | assumption)); (try any_goals (refine id_prop ?_; first | assumption)); k_whole; intro bzz lineszz kkzz hlineszz hll1zz hll2zz h'zz tk'zz F'zz N'zz l1zz; (try simp only [List.nil_append, List.cons_append] at N'zz); (have l2zz := difs_of (below1 l1zz); clear l1zz; (try simp only [List.nil_append, List.cons_append] at l2zz)); (try dsimp only); (try k_sweep))))
  trivial

theorem extend_ {prog : Program} {w : World} {A : Around} {E : Value → Shared → Prop} {s : Shared} {h₀ : Heap} {L D b : Addr} {m : Str → Option Value} {news news' : Led} {vs vs2 : List Value} {n n2 : Nat} {Q : Value → Shared → Prop}
    (F : Fr h₀ L s.heap m) (N : News h₀ L s.heap news) (hb : (b, lst vs2 n2) ∈ news) (hne : vs2.length ≠ 0) (U : Upd D (lst vs n) (lst (vs ++ vs2) (n + 1)) news news') (hz : vs.length ≤ 1000) (hz2 : vs2.length ≤ 1000)
    (h : ∀ h', Fr h₀ L h' m → News h₀ L h' news' → Q .none { s with heap := h' }) : wpAny (model prog w) A (call (.builtin "list.extend") [.ref D, .ref b]) Q E s := by
  refine kl_extend (l := vs ++ vs2) F N hb ?_ ?_ U ?_ ?_ ?_ h
  · simp
  · simpa using hne
  · have e : Builtin.List.listTooLong (vs.toArray.size + vs2.toArray.size) = false := by
      unfold Builtin.List.listTooLong
      refine decide_eq_false ?_
      rw [sizeLine_eq]
      simp only [List.size_toArray]
      omega
    rw [e]; simp
  · rw [sizeLine_eq]; simp; omega
  · rw [sizeLine_eq]; simp; omega
theorem ln_P33 : True := by
  k_with "my @call builtin:list.extend" => ((k_here; (with_reducible show wpAny _ _ (call (Value.builtin _) [Value.ref _, Value.ref _]) _ _ _); k_dflt (refine' extend_ (by k_asm) (by k_asm) (by k_mem) (by first | assumption | omega) (by k_upd) (by first | omega | (simp only [List.length_nil]; omega)) (by omega) ?_); intro h'zz F'zz N'zz; (try simp only [List.nil_append] at N'zz); (try k_sweep)))
  trivial
theorem hc_up {c : Nat} (h : HC c) : c ≤ 6 := h.2
theorem ln_P34 : True := by
  k_with "my @call builtin:len" => ((k_here; (with_reducible show wpAny _ _ (call (Value.builtin "len") [Value.ref _]) _ _ _); k_dflt (refine' kst_len (by k_asm) (by k_mem) (by rfl) (by (have hqzz := hc_up (by assumption); omega)) ?_; k_whole)))
  k_with "my @pyIter ref" => ((k_of "place" => refine to_held ?_))
  k_with "my @WhlIf" => (first | (refine WhlIf.yes (decide_eq_true (by omega)) ?_) | (refine WhlIf.no (decide_eq_false (by omega)) ?_))
  k_with "my @exec While Compare" => ((refine to_held ?_))
  k_with "my @exec While BoolOp" => ((refine to_held ?_))
  k_with "my @exec While" => ((refine to_held ?_))
  k_with "my @KswEnd" => ((refine to_held ?_))
  trivial
theorem lrows_ (w : World) (x dx cs_ cn rn : Addr) (cvs hv us : List Value) (cols : List (List Str)) (heads : List Str) (g : Led) (r : Int) (c : Nat) (t v0 t1 t2 t3 t4 t5 t6 t7 : Tok) (k1 k2 k3 : Nat)
  (hr : HidP (r = 1 ∨ r = 2)) (hc : HC c) (hcol : ColsIn g cvs cols) (hcl : cols.length = c) (hh : StrsAre hv heads) (hhl : heads.length = c) (hu : StrsAre us (rowLabs r.toNat))
  (hb1 : ∀ z ∈ heads, z.length ≤ 10) (hb3 : ∀ xs ∈ cols, xs.length = r.toNat ∧ ∀ z ∈ xs, z.length ≤ 10) :
  Tell 550 800 w 391 [.ref x, .int 80 v0] [] ([(x, instObj 333 dx), (dx, layD w.params t1 t2 t3 t4 t5 t6 t7 (.int r t) (.ref cs_) (.ref rn) (.ref cn)), (cs_, lst cvs k1), (rn, lst us k2), (cn, lst hv k3)] ++ g) [] (fun R => ∀ b lines k, StrsAre lines (lineOf (Str.ofString " ") heads (widthsOf heads cols) :: (List.range r.toNat).map (rowLine cols (widthsOf heads cols))) → R (.ref b) [] [(b, lst lines k)]) := by
  unfold Tell
  intro p loose mean mg mb gd cnm cs ca ccd cl outer A₀ base h₀ L m news s Q E B F X N T hk hsep hret
  try k_fold
  simp only [List.cons_append, List.nil_append, List.append_assoc] at N
  have hcvl : cvs.length = c := hcol.1.trans hcl
  subst hcvl
  walk_at "tell enter"
  try k_fold
  k_steps
  refine of_held ?_
  rename IsRange _ _ _ _ _ _ _ _ => lR
  rename News _ _ _ _ => lN
  rename Fr _ _ _ _ => lF
  have hwl : (widthsOf heads cols).length = cvs.length := by simp [widthsOf, hcl, hhl]
  refine' growR cvs.length [_, _, _, _, _] (g ++ news) [] (fun i pvs g' => g' = [] ∧ IntsAre pvs ((widthsOf heads cols).take i)) rfl lR (hc_small hc).1 (hc_small hc).2 lF lN ?gA ⟨rfl, .nil⟩ ?gB ?gC
  case gA => k_extra "my off1"
  case gB =>
    rintro j tj pvs k _ uu h tk I oi hjn hoI ⟨rfl, hP⟩ hfo hIg hg F1 N1
    try k_fold
    clear lF lN
    simp only [List.cons_append, List.nil_append] at N1
    try simp only [List.cons_append, List.nil_append] at hoI
    skip
    obtain ⟨xs, hxs⟩ : ∃ xs, cols[j]? = some xs := ⟨_, List.getElem?_eq_getElem (hcl.symm ▸ hjn)⟩
    obtain ⟨l, us', nn, hc1, hc2, hc3⟩ := hcol.2 j xs hxs
    obtain ⟨hxl, hxb⟩ := hb3 xs (List.mem_of_getElem? hxs)
    obtain ⟨y, ty, hy1, hy2⟩ := strs_get hh (hhl.symm ▸ hjn)
    have hyl := hb1 y (List.mem_of_getElem? hy2)
    have hxh : HidP (xs.length = 1 ∨ xs.length = 2) := by
      have : r = 1 ∨ r = 2 := hr
      show xs.length = 1 ∨ xs.length = 2
      omega
    have hx20 : ∀ z ∈ xs, z.length ≤ 20 := fun z hz => Nat.le_trans (hxb z hz) (by decide)
    obtain ⟨hm0, hm1⟩ := mx_bd hxb
    have e1 : (0 + (j : Int)).toNat = j := by omega
    have hc4 : cvs[(0 + (j : Int)).toNat]? = some (.ref l) := by rw [e1]; exact hc1
    have hy3 : hv[(0 + (j : Int)).toNat]? = some (.str y ty) := by rw [e1]; exact hy1
    have hj6 : j < 6 := Nat.lt_of_lt_of_le hjn hc.2
    have hpl : pvs.length ≤ 7 := by
      rw [hP.length, List.length_take]; omega
    try k_fold
    k_steps
    refine' grow_snoc [] ?FF ?NN ?SS trivial trivial (fun _ h => nomatch h) ?hm ⟨rfl, ?hP⟩
    case FF => assumption
    case NN => assumption
    case SS => simp only [List.cons_append, List.nil_append]; k_extra "my sub"
    case hm => intro z hz1 hz2; simp [kstB, hz1]
    case hP =>
      have e : (if (y.length : Int) > mxLen xs then (y.length : Int) else mxLen xs) = widthOf y xs := by unfold widthOf; split <;> omega
      rw [take_step (widths_get hy2 hxs), e]
      exact intz_snoc hP
  case gC =>
    rintro pvs k _ uu h tk ⟨rfl, hP⟩ hfo hg F1 N1
    try k_fold
    clear lF lN
    simp only [List.cons_append, List.nil_append] at N1
    have hc1 := hc.1
    have hc6 := hc.2
    rw [List.take_of_length_le (by rw [hwl]; exact Nat.le_refl _)] at hP
    have hne : ¬ (cvs.length : Int) = 0 := by omega
    have hwb : ∀ k ∈ widthsOf heads cols, 0 ≤ k ∧ k ≤ 10 := by
      intro k hk
      try k_fold
      obtain ⟨i, hi, rfl⟩ := List.mem_iff_getElem.mp hk
      have h1 : i < heads.length := by omega
      have h2 : i < cols.length := by omega
      have a1 := hb1 _ (List.getElem_mem h1)
      have a2 := mx_bd (hb3 _ (List.getElem_mem h2)).2
      simp only [widthsOf, List.getElem_zipWith, widthOf]
      omega
    obtain ⟨w0, tw0, hw1, hw2⟩ := ints_get (i := 0) hP (by omega)
    have hw0 := hwb w0 (List.mem_of_getElem? hw2)
    have hw3 : pvs[(0 : Int).toNat]? = some (.int w0 tw0) := hw1
    try k_fold
    k_steps
    · exfalso; omega
    refine of_held ?_
    refine whl_start 3 ?_
    try k_fold
    k_steps
    refine of_held ?_
    rename News _ _ _ _ => lN
    rename Fr _ _ _ _ => lF
    refine' kswC (σ := Int × Tok × Int × Tok) (fun c => [(Str.ofString "total", .int c.1 c.2.1), (Str.ofString "end", .int c.2.2.1 c.2.2.2)]) [] (fun c => 1 ≤ c.2.2.1 ∧ c.2.2.1 ≤ cvs.length ∧ 0 ≤ c.1 ∧ c.1 ≤ 12 * c.2.2.1) (fun c => (cvs.length - c.2.2.1).toNat) (_, _, _, _) lF lN ?gK ?gP ?gT
    case gK => k_extra "my kept"
    case gP => (dsimp only; omega)
    case gT =>
      rintro ⟨tot, ttk, e, etk⟩ u h tk ⟨he1, he2, ht0, ht1⟩ F1 N1
      try k_fold
      clear lF lN
      dsimp only at he1 he2 ht0 ht1 F1
      by_cases hlt : e < cvs.length
      · obtain ⟨wk, tkw, hk1, hk2⟩ := ints_get (i := e.toNat) hP (by omega)
        have hwk := hwb wk (List.mem_of_getElem? hk2)
        try k_fold
        k_steps
        refine of_held ?_
        refine' ksw_end (_, _, _, _) ?FF ?NN ?SS trivial ?gk ?gr ?gp ?gm
        case FF => assumption
        case NN => assumption
        case SS => exact fun p h => h
        case gk => k_extra "my kept"
        case gr =>
          intro z h1 h2
          try k_fold
          have a1 := h1 _ (.head _)
          have a2 := h1 _ (.tail _ (.head _))
          simp [kstB, a1, a2]
        case gp => (dsimp only; omega)
        case gm => (dsimp only; omega)
      · obtain rfl : e = cvs.length := by omega
        have hb1' : ∀ z ∈ heads, z.length ≤ 20 := fun z hz => Nat.le_trans (hb1 z hz) (by decide)
        have hb2' : ∀ k ∈ widthsOf heads cols, 0 ≤ k ∧ k ≤ 30 := fun k hk => ⟨(hwb k hk).1, Int.le_trans (hwb k hk).2 (by decide)⟩
        have hb3' : ∀ xs ∈ cols, xs.length = r.toNat ∧ ∀ z ∈ xs, z.length ≤ 20 := fun xs hx => ⟨(hb3 xs hx).1, fun z hz => Nat.le_trans ((hb3 xs hx).2 z hz) (by decide)⟩
        try k_fold
        k_steps
        refine' hret _ _ _ hlineszz _ _ ?FF (drop_to ?NN ?SS) ?AA
        case FF => assumption
        case NN => assumption
        case SS => k_extra "my sub"
        case AA => exact aboveC (off_right (l := g) (l' := news) (by k_extra "my off1")) above0
theorem reg_N1 : True := by
  w_top off
  k_with_none
  k_with "tell start" => ((unfold Tell; intro pzz loosezz meanzz mgzz mbzz gdzz cnzz cszz cazz ccdzz clzz outerzz A₀zz basezz h₀zz Lzz mzz newszz szz Qzz Ezz Bzz Fzz Xzz Nzz Tzz hkzz hsepzz hretzz; simp only [List.cons_append, List.nil_append] at Nzz; walk_at "tell enter"))
  k_with "my @call ref" => ((k_here; (with_reducible show wpAny _ _ (call (Value.ref _) _ _) _ _ _); first | walk_at "tell enter" | walk_at "tell enterC"))
  k_with "my cn" => (first | with_reducible exact And.left | with_reducible exact cn_id | ((with_reducible refine cn_sk ?_); k_extra "my cn"))
  k_with "my conj" => ((k_whole; (with_reducible refine cn_pick (by with_reducible assumption) ?_); k_extra "my cn"))
  k_with "my nn" => (first | with_reducible exact sd1 | with_reducible exact sd2 | with_reducible exact sd3 | with_reducible exact sd4 | with_reducible exact sd5 | with_reducible exact sd6 | with_reducible exact sd7 | with_reducible exact se1 | with_reducible exact se2 | with_reducible exact se3 | with_reducible exact se4 | with_reducible exact se5 | with_reducible exact se6 | with_reducible exact se7 | ((with_reducible refine su ?_); k_extra "my nn"))
  k_with "my lt0" => (first | with_reducible assumption | k_extra "my conj")
  k_with "my hyp" => (first | with_reducible assumption | with_reducible exact And.left (by with_reducible assumption) | with_reducible exact And.right (by with_reducible assumption))
  k_with "my omega" => ((k_whole; first | with_reducible assumption | decide | ((with_reducible show @Ne Nat _ _); first | (k_extra "my nn") | with_reducible exact nu1 (by k_extra "my lt0") | with_reducible exact nu2 (by k_extra "my lt0") | with_reducible exact nu3 (by k_extra "my lt0") | with_reducible exact nu4 (by k_extra "my lt0") | with_reducible exact nu5 (by k_extra "my lt0") | with_reducible exact nu6 (by k_extra "my lt0") | with_reducible exact nu7 (by k_extra "my lt0") | with_reducible exact nv1 (by k_extra "my lt0") | with_reducible exact nv2 (by k_extra "my lt0") | with_reducible exact nv3 (by k_extra "my lt0") | with_reducible exact nv4 (by k_extra "my lt0") | with_reducible exact nv5 (by k_extra "my lt0") | with_reducible exact nv6 (by k_extra "my lt0") | with_reducible exact nv7 (by k_extra "my lt0") | with_reducible exact ne_l (by k_extra "my lt0") | with_reducible exact ne_r (by k_extra "my lt0")) | ((with_reducible show @LE.le Nat _ _ _); first | with_reducible exact qm1 (by k_extra "my hyp") (by k_extra "my hyp") (by first | with_reducible exact mx2 (by with_reducible assumption) (by k_extra "my hyp") (by k_extra "my hyp") | with_reducible exact mx3 (by with_reducible assumption) (by k_extra "my hyp") (by k_extra "my hyp") (by k_extra "my hyp")) (by decide) | with_reducible exact qm2 (by k_extra "my hyp") (by first | with_reducible exact mx2 (by with_reducible assumption) (by k_extra "my hyp") (by k_extra "my hyp") | with_reducible exact mx3 (by with_reducible assumption) (by k_extra "my hyp") (by k_extra "my hyp") (by k_extra "my hyp")) (by decide) | with_reducible exact qn1 (by k_extra "my hyp") (by decide) | with_reducible exact qn2 (by k_extra "my hyp") (by decide) | with_reducible exact qn8 (by k_extra "my hyp") (by k_extra "my hyp") (by decide) | with_reducible exact qn7 (by k_extra "my hyp") (by k_extra "my hyp") (by decide) | with_reducible exact qn10 (by k_extra "my hyp") (by k_extra "my hyp") (by decide) | with_reducible exact qn14 (by k_extra "my hyp") (by k_extra "my hyp") (by decide) | with_reducible exact qn13 (by k_extra "my hyp") (by decide) | with_reducible exact qn5 (by k_extra "my hyp") (by decide) | with_reducible exact qn6 (by k_extra "my hyp") (by k_extra "my hyp") (by decide) | with_reducible exact qn6b (by k_extra "my hyp") (by k_extra "my hyp") (by decide) | with_reducible exact qn6c (by k_extra "my hyp") (by k_extra "my hyp") (by decide) | with_reducible exact qn11 (by k_extra "my hyp") (by decide)) | ((with_reducible show @LT.lt Nat _ _ _); first | with_reducible exact qn3 (by k_extra "my hyp") (by decide) | with_reducible exact qn4 (by k_extra "my hyp") (by decide) | with_reducible exact qn9 (by k_extra "my hyp") (by k_extra "my hyp") (by decide) | with_reducible exact qn12 (by k_extra "my hyp") (by k_extra "my hyp") (by decide)) | ((with_reducible show @LE.le Int _ _ _); first | with_reducible exact qi1 (by k_extra "my hyp") (by decide) | with_reducible exact qi2 (by k_extra "my hyp") (by decide) | with_reducible exact qi5 (by k_extra "my hyp") (by decide) | with_reducible exact qi6 (by k_extra "my hyp") (by decide) | with_reducible exact qc5 (by decide) | with_reducible exact qc2 (by k_extra "my hyp") (by decide) | with_reducible exact qc7 (by decide) | with_reducible exact qc4 (by k_extra "my hyp") (by decide) | with_reducible exact qc11 (by decide) | with_reducible exact qc13 (by k_extra "my hyp") (by decide) | with_reducible exact qq1 (by k_extra "my hyp") (by decide) | with_reducible exact qq2 (by k_extra "my hyp") (by decide) | with_reducible exact qi10 (by k_extra "my hyp") (by decide)) | ((with_reducible show @LT.lt Int _ _ _); first | with_reducible exact mxi2 (by with_reducible assumption) (by k_extra "my hyp") (by k_extra "my hyp") (by decide) | with_reducible exact mxi3 (by with_reducible assumption) (by k_extra "my hyp") (by k_extra "my hyp") (by k_extra "my hyp") (by decide) | with_reducible exact qc14 (by with_reducible assumption) (by decide) | with_reducible exact qi3 (by k_extra "my hyp") (by decide) | with_reducible exact qi4 (by k_extra "my hyp") (by decide) | with_reducible exact qi7 (by k_extra "my hyp") (by decide) | with_reducible exact qi8 (by k_extra "my hyp") (by decide) | with_reducible exact qc6 (by decide) | with_reducible exact qc1 (by k_extra "my hyp") (by decide) | with_reducible exact qc8 (by decide) | with_reducible exact qc3 (by k_extra "my hyp") (by decide) | with_reducible exact qc12 (by decide) | with_reducible exact qc9 (by k_extra "my hyp") (by decide) | with_reducible exact qi9 (by k_extra "my hyp") (by decide)) | ((with_reducible show @Eq Nat _ _); first | with_reducible exact qe1 | with_reducible exact qe2) | ((with_reducible show Not _); first | with_reducible exact qc10 (by k_extra "my hyp") (by decide))))
  k_with "my ne" => (((refine neN ?_); (try dsimp only); first | with_reducible assumption | exact dif_ne (by with_reducible assumption) | exact dif_ne' (by with_reducible assumption) | k_extra "my difne" | with_reducible exact ne_l (by k_extra "my conj") | with_reducible exact ne_r (by k_extra "my conj") | omega))
  k_with "my difne" => (first | (refine difs_pick (by with_reducible assumption) ?_; intro h9zz; first | exact difs_at h9zz 0 rfl | exact difs_at h9zz 1 rfl | exact difs_at h9zz 2 rfl | exact difs_at h9zz 3 rfl | exact difs_at h9zz 4 rfl | exact difs_at h9zz 5 rfl | exact difs_at h9zz 6 rfl | exact difs_at h9zz 7 rfl | exact difs_at h9zz 8 rfl | exact difs_at h9zz 9 rfl | exact difs_at h9zz 10 rfl | exact difs_at h9zz 11 rfl | exact difs_at h9zz 12 rfl | exact difs_at h9zz 13 rfl | exact difs_at h9zz 14 rfl | exact difs_at h9zz 15 rfl | exact difs_at h9zz 16 rfl | exact difs_at h9zz 17 rfl | exact difs_at h9zz 18 rfl | exact difs_at h9zz 19 rfl | exact difs_at h9zz 20 rfl | exact difs_at h9zz 21 rfl | exact difs_at h9zz 22 rfl | exact difs_at h9zz 23 rfl | exact difs_at h9zz 24 rfl | exact difs_at h9zz 25 rfl | exact difs_at h9zz 26 rfl | exact difs_at h9zz 27 rfl | exact difs_at h9zz 28 rfl | exact difs_at h9zz 29 rfl | exact difs_at h9zz 30 rfl | exact difs_at h9zz 31 rfl | exact difs_at h9zz 32 rfl | exact difs_at h9zz 33 rfl | exact difs_at h9zz 34 rfl | exact difs_at h9zz 35 rfl | exact difs_at h9zz 36 rfl | exact difs_at h9zz 37 rfl | exact difs_at h9zz 38 rfl | exact difs_at h9zz 39 rfl) | (refine difs_pick' (by with_reducible assumption) ?_; intro h9zz; first | exact difs_at' h9zz 0 rfl | exact difs_at' h9zz 1 rfl | exact difs_at' h9zz 2 rfl | exact difs_at' h9zz 3 rfl | exact difs_at' h9zz 4 rfl | exact difs_at' h9zz 5 rfl | exact difs_at' h9zz 6 rfl | exact difs_at' h9zz 7 rfl | exact difs_at' h9zz 8 rfl | exact difs_at' h9zz 9 rfl | exact difs_at' h9zz 10 rfl | exact difs_at' h9zz 11 rfl | exact difs_at' h9zz 12 rfl | exact difs_at' h9zz 13 rfl | exact difs_at' h9zz 14 rfl | exact difs_at' h9zz 15 rfl | exact difs_at' h9zz 16 rfl | exact difs_at' h9zz 17 rfl | exact difs_at' h9zz 18 rfl | exact difs_at' h9zz 19 rfl | exact difs_at' h9zz 20 rfl | exact difs_at' h9zz 21 rfl | exact difs_at' h9zz 22 rfl | exact difs_at' h9zz 23 rfl | exact difs_at' h9zz 24 rfl | exact difs_at' h9zz 25 rfl | exact difs_at' h9zz 26 rfl | exact difs_at' h9zz 27 rfl | exact difs_at' h9zz 28 rfl | exact difs_at' h9zz 29 rfl | exact difs_at' h9zz 30 rfl | exact difs_at' h9zz 31 rfl | exact difs_at' h9zz 32 rfl | exact difs_at' h9zz 33 rfl | exact difs_at' h9zz 34 rfl | exact difs_at' h9zz 35 rfl | exact difs_at' h9zz 36 rfl | exact difs_at' h9zz 37 rfl | exact difs_at' h9zz 38 rfl | exact difs_at' h9zz 39 rfl))
  k_with "my ctl" => (first | with_reducible exact ct_all | with_reducible exact ct_left | with_reducible exact ct_right | with_reducible exact ct_nil | with_reducible exact ct_one | ((with_reducible refine ct_keep ?_); k_extra "my ctl") | ((with_reducible refine ct_skip ?_); k_extra "my ctl"))
  k_with "my o3l" => (first | with_reducible exact o3_id | with_reducible exact o3_nil | ((with_reducible refine o3_keep ?_); k_extra "my o3l") | ((with_reducible refine o3_skip ?_); k_extra "my o3l"))
  k_with "my o3" => (first | with_reducible assumption | ((try simp only [List.cons_append, List.nil_append]); refine off3By (by with_reducible assumption) ?_; k_extra "my o3l") | (refine And.intro ⟨by k_ne, by k_ne, by k_ne⟩ ?_; k_extra "my o3"))
  k_with "my okl" => (first | with_reducible exact ok_id | with_reducible exact ok_left | with_reducible exact ok_right | with_reducible exact ok_nil | ((with_reducible refine ok_keep ?_); k_extra "my okl") | ((with_reducible refine ok_skip ?_); k_extra "my okl"))
  k_with "my offtail" => (first | with_reducible exact off_difs (by with_reducible assumption) | exact off_lt (by with_reducible assumption) | exact off_of (by with_reducible assumption) | exact off_all (by with_reducible assumption) | exact off_left (by with_reducible assumption) | exact off_right (by with_reducible assumption) | exact off_lt (all_up (by with_reducible assumption)) | exact off_lt (all_up (all_up (by with_reducible assumption))) | exact off_lt (all_up (all_up (all_up (by with_reducible assumption)))) | exact off_lt (all_up (all_up (all_up (all_up (by with_reducible assumption))))) | exact off_lt (all_up (all_up (all_up (all_up (all_up (by with_reducible assumption)))))) | exact off_lt (all_up (all_up (all_up (all_up (all_up (all_up (by with_reducible assumption))))))) | exact off_lt (And.right (by with_reducible assumption)) | exact And.right (by with_reducible assumption) | exact off_lt (And.right (And.right (by with_reducible assumption))) | exact And.right (And.right (by with_reducible assumption)) | exact off_lt (And.right (And.right (And.right (by with_reducible assumption)))) | exact And.right (And.right (And.right (by with_reducible assumption))) | exact off_lt (And.right (And.right (And.right (And.right (by with_reducible assumption))))) | exact And.right (And.right (And.right (And.right (by with_reducible assumption)))) | exact off_lt (And.right (And.right (And.right (And.right (And.right (by with_reducible assumption)))))) | exact And.right (And.right (And.right (And.right (And.right (by with_reducible assumption))))) | exact off_lt (And.right (And.right (And.right (And.right (And.right (And.right (by with_reducible assumption))))))) | exact And.right (And.right (And.right (And.right (And.right (And.right (by with_reducible assumption)))))) | exact off_lt (And.right (And.right (And.right (And.right (And.right (And.right (And.right (by with_reducible assumption)))))))) | exact And.right (And.right (And.right (And.right (And.right (And.right (And.right (by with_reducible assumption))))))) | exact off_lt (And.right (And.right (And.right (And.right (And.right (And.right (And.right (And.right (by with_reducible assumption))))))))) | exact And.right (And.right (And.right (And.right (And.right (And.right (And.right (And.right (by with_reducible assumption)))))))) | exact off_lt (And.right (And.right (And.right (And.right (And.right (And.right (And.right (And.right (And.right (by with_reducible assumption)))))))))) | exact And.right (And.right (And.right (And.right (And.right (And.right (And.right (And.right (And.right (by with_reducible assumption))))))))) | exact off_lt (And.right (And.right (And.right (And.right (And.right (And.right (And.right (And.right (And.right (And.right (by with_reducible assumption))))))))))) | exact And.right (And.right (And.right (And.right (And.right (And.right (And.right (And.right (And.right (And.right (by with_reducible assumption)))))))))) | exact off_lt (And.right (And.right (And.right (And.right (And.right (And.right (And.right (And.right (And.right (And.right (And.right (by with_reducible assumption)))))))))))) | exact And.right (And.right (And.right (And.right (And.right (And.right (And.right (And.right (And.right (And.right (And.right (by with_reducible assumption))))))))))) | exact off_lt (And.right (And.right (And.right (And.right (And.right (And.right (And.right (And.right (And.right (And.right (And.right (And.right (by with_reducible assumption))))))))))))) | exact And.right (And.right (And.right (And.right (And.right (And.right (And.right (And.right (And.right (And.right (And.right (And.right (by with_reducible assumption)))))))))))) | exact off_lt (And.right (And.right (And.right (And.right (And.right (And.right (And.right (And.right (And.right (And.right (And.right (And.right (And.right (by with_reducible assumption)))))))))))))) | exact And.right (And.right (And.right (And.right (And.right (And.right (And.right (And.right (And.right (And.right (And.right (And.right (And.right (by with_reducible assumption))))))))))))) | exact off_lt (And.right (And.right (And.right (And.right (And.right (And.right (And.right (And.right (And.right (And.right (And.right (And.right (And.right (And.right (by with_reducible assumption))))))))))))))) | exact And.right (And.right (And.right (And.right (And.right (And.right (And.right (And.right (And.right (And.right (And.right (And.right (And.right (And.right (by with_reducible assumption)))))))))))))))
  k_with "my off1" => (first | exact True.intro | with_reducible assumption | exact off_difs (by with_reducible assumption) | (refine offBy (by with_reducible assumption) ?_; k_extra "my okl") | (refine offByC (by with_reducible assumption) ?_; k_extra "my ctl") | (refine And.intro ?_ ?_; (k_extra "my ne"); k_extra "my off1") | k_extra "my offtail")
  k_with "my above" => (first | exact above0 | (simp only [List.nil_append, List.cons_append]; k_extra "my above") | (refine aboveC ?_ ?_; (k_extra "my off1"); (k_extra "my above")))
  k_with "my need" => (first | exact List.forall_mem_nil _ | (refine' List.forall_mem_cons.mpr ⟨(by k_mem), (by k_extra "my need")⟩))
  k_with "my split" => (skip)
  k_with "my @call builtin:list.pop" => ((k_here; k_dflt (refine' pop0 (by k_asm) (by k_asm) (by k_upd) (by first | assumption | (simp only [List.length_cons] at *; omega)) ?_; k_whole); intro h'zz F'zz N'zz; (try dsimp only [List.nil_append, List.cons_append] at N'zz)))
  k_with "my len" => (((try dsimp only); (try simp only [rjust_len, ljust_len, Str.length_append, len_space, len_nil, len_dot]); omega))
  k_with "my @binaryOp Add str str" => ((k_here; (with_reducible show wpAny _ _ (binaryOp Operator.Add (Value.str _ _) (Value.str _ _)) _ _ _); refine add_ (by k_extra "my len") ?_; intro _ _))
  k_with "my strs" => (first | with_reducible assumption | exact StrsAre.nil | (refine' StrsAre.cons _ _ (by k_extra "my strs")))
  k_with "my @call builtin:str.join" => ((k_here; (with_reducible show wpAny _ _ (call (Value.builtin "str.join") [Value.str _ _, Value.ref _]) _ _ _); k_dflt (refine' k_join (by k_asm) (by k_mem) (by (with_unfolding_all k_extra "my strs")) (by k_extra "my each") (by exact Nat.le_of_ble_eq_true rfl) ?_; k_whole; intro _ _)))
  k_with "my tlen" => (first | decide | exact Nat.le_trans (num_len (by omega) (by omega)) (by decide) | k_extra "my len")
  k_with "my each" => (first | assumption | exact List.forall_mem_nil _ | (refine List.forall_mem_cons.mpr ⟨by k_extra "my tlen", ?_⟩; k_extra "my each"))
  k_with "my @compareOp In str str" => ((k_here; refine in_no (by assumption) ?_))
  k_with "my @call builtin:str.isprintable" => ((k_here; refine KXw.isprintable (b := true) (by assumption) ?_))
  k_with "my @WhlIf" => ((refine WhlIf.no (decide_eq_false (by rw [pow18]; omega)) ?_))
  k_with "my @subscriptTail Attribute" => ((k_here; k_dflt (refine kba_turn (value' := PySem.Expr.Name (PySem.Str.ofString "_") ⟨0, 0, 0, 0⟩) (fun _ => rfl) ?_)))
  k_with "my @subscriptTail Subscript" => ((k_here; k_dflt (refine kba_turn (value' := PySem.Expr.Name (PySem.Str.ofString "_") ⟨0, 0, 0, 0⟩) (fun _ => rfl) ?_)))
  k_with "my @execs cons Assign cons" => (first | (k_here; k_gentoks) | ((with_reducible refine wpAny_execs_cons ?_); try dsimp only))
  k_with "my @execs cons" => (first | (k_here; k_gentoks) | ((with_reducible refine wpAny_execs_cons ?_); try dsimp only))
  k_with "my @exec Assign" => ((k_here; (with_reducible show wpAny _ _ (exec (PySem.Stmt.Assign [PySem.Expr.Name _ _] _ _) _) _ _ _); k_dflt (refine wpAny_Assign_Name ?_)))
  k_with "my @exec While" => ((k_here; k_dflt (refine whl_start 100 ?_)))
  k_with "my pull" => (first | exact Pull.head | (refine' Pull.tail (by k_extra "my pull")))
  k_with "my @call ref" => ((k_here; (with_reducible show wpAny _ _ (call (Value.ref 66) _ _) _ _ _); k_dflt (refine' Tell.useQ (by k_asm) (by k_asm) (by k_asm) (by k_asm) (by k_asm) (by first | exact rfl | assumption) (by k_extra "my need") (by exact Nat.le_of_ble_eq_true rfl) (by exact Nat.le_of_ble_eq_true rfl) (whole_ _ _ _ (by omega) (by omega)) ?_; k_whole; intro tkzz h'zz tk'zz F'zz N'zz l1zz; (try simp only [List.nil_append, List.cons_append] at N'zz); clear l1zz; (try dsimp only); (try k_sweep))))
  k_with "my @call ref" => ((k_here; (with_reducible show wpAny _ _ (call (Value.ref 377) _ _) _ _ _); k_dflt (refine' Tell.useQ (by k_asm) (by k_asm) (by k_asm) (by k_asm) (by k_asm) (by first | exact rfl | assumption) (by k_extra "my need") (by exact Nat.le_of_ble_eq_true rfl) (by exact Nat.le_of_ble_eq_true rfl) (padded_ _ _ _ _ _ (by omega) (by omega) (by k_extra "my len")) ?_; k_whole; intro tkzz h'zz tk'zz F'zz N'zz l1zz; (try simp only [List.nil_append, List.cons_append] at N'zz); clear l1zz; (try dsimp only); (try k_sweep))))
  k_with "my @call ref" => ((k_here; (with_reducible show wpAny _ _ (call (Value.ref 243) _ _) _ _ _); k_dflt (refine' Tell.useQ (by k_asm) (by k_asm) (by k_asm) (by k_asm) (by k_asm) (by first | exact rfl | assumption) (by k_extra "my need") (by exact Nat.le_of_ble_eq_true rfl) (by exact Nat.le_of_ble_eq_true rfl) (encode_ _ _ _ (by first | assumption | decide +kernel) (by first | assumption | decide +kernel) (by first | assumption | decide +kernel)) ?_; k_whole; intro tkzz h'zz tk'zz F'zz N'zz l1zz; (try simp only [List.nil_append, List.cons_append] at N'zz); clear l1zz; (try dsimp only); (try k_sweep))))
  k_with "my @call ref" => ((k_here; (with_reducible show wpAny _ _ (call (Value.ref 278) _ _) _ _ _); k_dflt (refine' Tell.useQ (by k_asm) (by k_asm) (by k_asm) (by k_asm) (by k_asm) (by first | exact rfl | assumption) (by k_extra "my need") (by exact Nat.le_of_ble_eq_true rfl) (by exact Nat.le_of_ble_eq_true rfl) (widest2 _ _ _ _ _ _ _ (by k_extra "my len") (by k_extra "my len")) ?_; k_whole; intro tkzz h'zz tk'zz F'zz N'zz l1zz; (try simp only [List.nil_append, List.cons_append] at N'zz); clear l1zz; (try dsimp only); (try k_sweep))))
  k_with "my @call ref" => ((k_here; (with_reducible show wpAny _ _ (call (Value.ref 278) _ _) _ _ _); k_dflt (refine' Tell.useQ (by k_asm) (by k_asm) (by k_asm) (by k_asm) (by k_asm) (by first | exact rfl | assumption) (by k_extra "my need") (by exact Nat.le_of_ble_eq_true rfl) (by exact Nat.le_of_ble_eq_true rfl) (widest1 _ _ _ _ _ (by k_extra "my len")) ?_; k_whole; intro tkzz h'zz tk'zz F'zz N'zz l1zz; (try simp only [List.nil_append, List.cons_append] at N'zz); clear l1zz; (try dsimp only); (try k_sweep))))
  k_with "my @call ref" => ((k_here; (with_reducible show wpAny _ _ (call (Value.ref 199) [_, _, _] _) _ _ _); k_dflt (refine' Tell.useQ (by k_asm) (by k_asm) (by k_asm) (by k_asm) (by k_asm) (by first | exact rfl | assumption) (by k_extra "my need") (by exact Nat.le_of_ble_eq_true rfl) (by exact Nat.le_of_ble_eq_true rfl) (vector3 _ _ _ _) ?_; k_whole; intro xzz dxzz t1zz t2zz t3zz t4zz t5zz hxzz h'zz tk'zz F'zz N'zz l1zz; (try simp only [List.nil_append, List.cons_append] at N'zz); (have l2zz := difs_of (below2 l1zz).1; have l3zz := difs_of (below2 l1zz).2; clear l1zz; (try simp only [List.nil_append, List.cons_append] at l2zz l3zz); skip); (try dsimp only); (try k_sweep))))
  k_with "my @call ref" => ((k_here; (with_reducible show wpAny _ _ (call (Value.ref 199) [_, _] _) _ _ _); k_dflt (refine' Tell.useQ (by k_asm) (by k_asm) (by k_asm) (by k_asm) (by k_asm) (by first | exact rfl | assumption) (by k_extra "my need") (by exact Nat.le_of_ble_eq_true rfl) (by exact Nat.le_of_ble_eq_true rfl) (vector2 _ _ _) ?_; k_whole; intro xzz dxzz t1zz t2zz t3zz t4zz t5zz hxzz h'zz tk'zz F'zz N'zz l1zz; (try simp only [List.nil_append, List.cons_append] at N'zz); (have l2zz := difs_of (below2 l1zz).1; have l3zz := difs_of (below2 l1zz).2; clear l1zz; (try simp only [List.nil_append, List.cons_append] at l2zz l3zz); skip); (try dsimp only); (try k_sweep))))
  k_with "my @call ref" => ((k_here; (with_reducible show wpAny _ _ (call (Value.ref 439) [_, _] _) _ _ _); k_dflt (refine' Tell.use2 (by k_asm) (by k_asm) (by k_asm) (by (refine' pull1 (by k_asm) (by k_extra "my pull"))) (by k_asm) (by first | exact rfl | assumption) (by (refine mt1 ?_; k_all)) (by exact Nat.le_of_ble_eq_true rfl) (by exact Nat.le_of_ble_eq_true rfl) (plum_ _ _ _ _ _ _ _ (by assumption) (by assumption) (by omega) (by omega)) ?_; k_whole; intro tkzz rzz vs'zz ns'zz n'zz hi'zz hl'zz h0zz h1zz h'zz tk'zz F'zz N'zz l1zz; (try simp only [List.nil_append, List.cons_append] at N'zz); clear l1zz; (try dsimp only); (try k_sweep))))
  k_with "my @call ref" => ((k_here; (with_reducible show wpAny _ _ (call (Value.ref 265) _ _) _ _ _); k_dflt (refine' Tell.useQ (by k_asm) (by k_asm) (by k_asm) (by k_asm) (by k_asm) (by first | exact rfl | assumption) (by k_extra "my need") (by exact Nat.le_of_ble_eq_true rfl) (by exact Nat.le_of_ble_eq_true rfl) (fmt_int _ _ _ _ _ (by omega) (by omega)) ?_; k_whole; intro tkzz h'zz tk'zz F'zz N'zz l1zz; (try simp only [List.nil_append, List.cons_append] at N'zz); clear l1zz; (try dsimp only); (try k_sweep))))
  k_with "my @call ref" => ((k_here; (with_reducible show wpAny _ _ (call (Value.ref 265) _ _) _ _ _); k_dflt (refine' Tell.useQ (by k_asm) (by k_asm) (by k_asm) (by k_asm) (by k_asm) (by first | exact rfl | assumption) (by k_extra "my need") (by exact Nat.le_of_ble_eq_true rfl) (by exact Nat.le_of_ble_eq_true rfl) (fmt_str _ _ _ _ _ (by first | assumption | decide +kernel) (by first | assumption | decide +kernel) (by first | assumption | decide +kernel)) ?_; k_whole; intro tkzz h'zz tk'zz F'zz N'zz l1zz; (try simp only [List.nil_append, List.cons_append] at N'zz); clear l1zz; (try dsimp only); (try k_sweep))))
  k_with "my @call ref" => ((k_here; (with_reducible show wpAny _ _ (call (Value.ref 231) _ _) _ _ _); k_dflt (refine' Tell.useQ (by k_asm) (by k_asm) (by k_asm) (by k_asm) (by k_asm) (by first | exact rfl | assumption) (by k_extra "my need") (by exact Nat.le_of_ble_eq_true rfl) (by exact Nat.le_of_ble_eq_true rfl) (grown_ _ _ _ _ _ (by omega) (by omega) (by k_extra "my len")) ?_; k_whole; intro tkzz h'zz tk'zz F'zz N'zz l1zz; (try simp only [List.nil_append, List.cons_append] at N'zz); clear l1zz; (try dsimp only); (try k_sweep))))
  k_with "my comp" => ((k_here; k_dflt (refine LCg.ListComp_U (F₀ := by k_asm) (by with_unfolding_all rfl) (by decide) (by rfl) (by decide) (by rfl) ?_)))
  k_with "my o3c" => (((try simp only [List.cons_append, List.nil_append]); refine off3By (by with_reducible assumption) ?_; k_extra "my o3l"))
  k_with "my offs" => (first | exact True.intro | k_extra "my o3c" | (k_whole; refine And.intro ⟨by k_ne, by k_ne, by k_ne⟩ ?_; k_extra "my offs") | assumption)
  k_with "my list" => (exact News.isList (by k_asm) (by k_mem))
  k_with "my slice" => ((k_here; (with_reducible show wpAny _ _ (subscriptTail _ (PySem.Expr.Slice _ _ none _) (Value.ref _) (Value.ref _)) _ _ _); k_dflt (refine' kms_slice_lit (by k_asm) (by k_asm) (by k_extra "my list") (by kmk_part) (by kmk_part) (by first | exact pick_upto (by omega) | exact pick_run (by omega) (by omega) (by omega)) ?_ (by with_unfolding_all rfl) (by kmk_pure) (by (rw [List.size_toArray, sizeLine_eq]; omega)); intro D'zz h'zz F'zz N'zz l1zz; (try k_lt l1zz); (try k_sweep))))
  k_with "my len list" => ((k_here; (with_reducible show wpAny _ _ (call (Value.builtin "len") [Value.ref _]) _ _ _); k_dflt (refine' kst_len (by k_asm) (by k_mem) (by rfl) (by omega) ?_; k_whole)))
  k_with "my mul list" => ((k_here; (with_reducible show wpAny _ _ (binaryOp Operator.Mult (Value.ref _) (Value.int _ _)) _ _ _); k_dflt (refine' KMa.mul (by k_asm) (by k_asm) (by k_extra "my list") (by omega) (by omega) (by (simp only [List.length_cons, List.length_nil]; omega)) (by first | exact flat1 _ _ | rfl) ?_; k_whole; intro D'zz h'zz F'zz N'zz l1zz; (try k_lt l1zz); (try k_sweep))))
  k_with "my add list" => ((k_here; (with_reducible show wpAny _ _ (binaryOp _ (Value.ref _) (Value.ref _)) _ _ _); k_dflt (refine' kmk_add_lit (by k_asm) (by k_asm) (by k_extra "my list") (by k_extra "my list") (by rfl) ?_ (by (rw [sizeLine_eq]; (try simp only [List.toList_toArray, List.length_take, List.length_append, List.length_replicate, List.length_cons, List.length_nil]); omega)); intro D'zz h'zz F'zz N'zz l1zz; (try k_lt l1zz); (try k_sweep))))
  k_with "my @LPost" => ((dsimp only [LPost]))
  k_with "my tailmem" => (first | assumption | exact List.Mem.head _ | (refine List.Mem.tail _ ?_; k_extra "my tailmem") | (refine List.mem_append.mpr (Or.inl ?_); k_extra "my tailmem") | (refine List.mem_append.mpr (Or.inr ?_); k_extra "my tailmem"))
  k_with "my sub" => (first | exact List.forall_mem_nil _ | (refine List.forall_mem_cons.mpr ⟨by k_extra "my tailmem", ?_⟩; k_extra "my sub") | (intro p9zz h9zz; k_extra "my tailmem"))
  k_with "my off" => (first | exact List.forall_mem_nil _ | (refine List.forall_mem_cons.mpr ⟨by first | assumption | omega, ?_⟩; k_extra "my off") | assumption | exact ne_of_all (by assumption))
  k_with "my kept" => (first | exact List.forall_mem_nil _ | (refine List.forall_mem_cons.mpr ⟨by with_unfolding_all rfl, ?_⟩; k_extra "my kept"))
  k_with "my for" => ((k_here; (rename Fr _ _ _ _ => lF'zz); (with_unfolding_all refine' For_invVF lF'zz (by exact rfl) (by exact rfl) ?_; k_whole)))
  k_with "my @eval ListComp" => ((k_extra "my comp"))
  k_with "my @CompSrc" => ((refine to_held ?_))
  k_with "my @CompEnd" => ((refine to_held ?_))
  k_with "my @pyIter ref" => ((k_of "item" => refine to_held ?_))
  k_with "my @call ref" => ((k_here; (with_reducible show wpAny _ _ (call (Value.ref 271) _ _) _ _ _); k_dflt (refine' Tell.useQ (by k_asm) (by k_asm) (by k_asm) (by k_asm) (by k_asm) (by first | exact rfl | assumption) (by k_extra "my need") (by exact Nat.le_of_ble_eq_true rfl) (by exact Nat.le_of_ble_eq_true rfl) (items_str _ _ _ _ _ _ _ _ _ _ _ _ _ _ _ (by assumption) (by assumption) (by first | assumption | omega)) ?_; k_whole; intro bzz uszz huszz h'zz tk'zz F'zz N'zz l1zz; (try simp only [List.nil_append, List.cons_append] at N'zz); (have l2zz := difs_of (below1 l1zz); clear l1zz; (try simp only [List.nil_append, List.cons_append] at l2zz)); (try dsimp only); (try k_sweep))))
  k_with "my @call ref" => ((k_here; (with_reducible show wpAny _ _ (call (Value.ref 271) _ _) _ _ _); k_dflt (refine' Tell.useQ (by k_asm) (by k_asm) (by k_asm) (by k_asm) (by k_asm) (by first | exact rfl | assumption) (by k_extra "my need") (by exact Nat.le_of_ble_eq_true rfl) (by exact Nat.le_of_ble_eq_true rfl) (items_int _ _ _ _ _ _ _ _ _ _ _ _ _ _ _ (by assumption) (by assumption) (by assumption) (by first | assumption | omega)) ?_; k_whole; intro bzz uszz huszz h'zz tk'zz F'zz N'zz l1zz; (try simp only [List.nil_append, List.cons_append] at N'zz); (have l2zz := difs_of (below1 l1zz); clear l1zz; (try simp only [List.nil_append, List.cons_append] at l2zz)); (try dsimp only); (try k_sweep))))
  k_with "my @subscriptTail Name Slice ref ref" => ((k_extra "my slice"))
  k_with "my @call builtin:len" => ((k_extra "my len list"))
  k_with "my @binaryOp Mult ref int" => ((k_extra "my mul list"))
  k_with "my @binaryOp Add ref ref" => ((k_extra "my add list"))
  k_with "my @call ref" => ((k_here; (with_reducible show wpAny _ _ (call (Value.ref 412) _ _) _ _ _); k_dflt (refine' Tell.useQ (by k_asm) (by k_asm) (by k_asm) (by k_asm) (by k_asm) (by first | exact rfl | assumption) (by k_extra "my need") (by exact Nat.le_of_ble_eq_true rfl) (by exact Nat.le_of_ble_eq_true rfl) (filled_int _ _ _ _ _ _ _ _ _ _ _ _ _ _ _ _ (by first | assumption | omega) (by assumption) (by first | assumption | ((try simp only [List.length_map]); omega))) ?_; k_whole; intro bzz us'zz n'zz huszz h'zz tk'zz F'zz N'zz l1zz; (try simp only [List.nil_append, List.cons_append] at N'zz); (have l2zz := difs_of (below1 l1zz); clear l1zz; (try simp only [List.nil_append, List.cons_append] at l2zz)); (try dsimp only); (try k_sweep))))
  k_with "my @call ref" => ((k_here; (with_reducible show wpAny _ _ (call (Value.ref 412) _ _) _ _ _); k_dflt (refine' Tell.useQ (by k_asm) (by k_asm) (by k_asm) (by k_asm) (by k_asm) (by first | exact rfl | assumption) (by k_extra "my need") (by exact Nat.le_of_ble_eq_true rfl) (by exact Nat.le_of_ble_eq_true rfl) (filled_str _ _ _ _ _ _ _ _ _ _ _ _ _ _ _ _ (by first | assumption | omega) (by assumption) (by first | assumption | ((try simp only [List.length_map]); omega))) ?_; k_whole; intro bzz us'zz n'zz huszz h'zz tk'zz F'zz N'zz l1zz; (try simp only [List.nil_append, List.cons_append] at N'zz); (have l2zz := difs_of (below1 l1zz); clear l1zz; (try simp only [List.nil_append, List.cons_append] at l2zz)); (try dsimp only); (try k_sweep))))
  k_with "my item" => ((k_here; (with_reducible show wpAny _ _ (subscriptTail _ _ (Value.ref _) (Value.int _ _)) _ _ _); k_dflt (refine' item_lit (by k_asm) (by k_mem) (by first | decide | omega) (by first | decide | omega) (by first | exact rfl | assumption) ?_ (by with_unfolding_all rfl); k_whole)))
  k_with "my @subscriptTail Name Constant ref int" => ((k_extra "my item"))
  k_with "my @call type:str" => ((k_here; (with_reducible show wpAny _ _ (call (Value.type "str") [Value.int _ _]) _ _ _); refine str_small (by omega) (by omega) ?_))
  k_with "my @GrowPost" => ((dsimp only [GrowPost]))
  k_with "my @getMethod ref" => ((k_here; (with_reducible show wpAny _ _ (getMethod (Value.ref _) (Str.ofString "get") _) _ _ _); k_dflt (refine kdg_method (knd := PySem.strKind _ _) (by k_asm) (by k_mem) (by k_asm) ?_)))
  k_with "my @call builtin:dict.get" => ((k_here; k_dflt (first | refine kdg_get1 (knd := PySem.strKind _ _) (by k_asm) (by k_mem) (by k_asm) (by k_asm) (strKind_is _ _ _ _) (some _) (by rfl) ?_ | refine kdg_get1 (knd := PySem.strKind _ _) (by k_asm) (by k_mem) (by k_asm) (by k_asm) (strKind_is _ _ _ _) none (by rfl) ?_); (try dsimp only [Option.getD])))
  k_with "my @compareOp NotIn str ref" => ((k_here; k_dflt (first | refine kdg_notin (knd := PySem.strKind _ _) (by k_asm) (by k_mem) (by k_asm) (by k_asm) (strKind_is _ _ _ _) true (by rfl) ?_ | refine kdg_notin (knd := PySem.strKind _ _) (by k_asm) (by k_mem) (by k_asm) (by k_asm) (strKind_is _ _ _ _) false (by rfl) ?_); (try dsimp only [Bool.not_true, Bool.not_false])))
  k_with "my @call builtin:list.append" => ((k_here; (with_reducible show wpAny _ _ (call (Value.builtin "list.append") [Value.ref _, _]) _ _ _); k_dflt (refine' append_K (by k_asm) (by k_asm) (by k_upd) ?_ (by (rw [List.size_toArray, sizeLine_eq]; (try simp only [List.length_append, List.length_map, List.length_cons, List.length_nil]); omega)); k_whole; intro h'zz F'zz N'zz; (try simp only [List.toList_toArray] at N'zz); (try k_sweep))))
  k_with "my @getMethod ref" => ((k_here; (with_reducible show wpAny _ _ (getMethod (Value.ref _) (Str.ofString "get") _) _ _ _); k_dflt (refine kdg_method (knd := PySem.strKind _ _) (by k_asm) (by k_mem) (by k_asm) ?_)))
  k_with "my @call builtin:dict.get" => ((k_here; k_dflt (first | refine kdg_get1 (knd := PySem.strKind _ _) (by k_asm) (by k_mem) (by k_asm) (by k_asm) (strKind_is _ _ _ _) (some _) (by rfl) ?_ | refine kdg_get1 (knd := PySem.strKind _ _) (by k_asm) (by k_mem) (by k_asm) (by k_asm) (strKind_is _ _ _ _) none (by rfl) ?_); (try dsimp only [Option.getD])))
  k_with "my tailm" => (first | assumption | exact List.Mem.head _ | (refine List.Mem.tail _ ?_; k_extra "my tailm"))
  k_with "my o3b" => (((try simp only [List.cons_append, List.nil_append]); refine off3By (by with_reducible assumption) ?_; k_extra "my o3l"))
  k_with "my cend" => ((k_dflt (refine' cend (by k_asm) (by k_asm) (by k_extra "my pull") (by k_extra "my pull") (by k_extra "my pull") (by first | assumption | (k_whole; first | k_extra "my o3b" | (refine And.intro ⟨by k_ne, by k_ne, by k_ne⟩ ?_; k_extra "my o3b") | (refine And.intro ⟨by k_ne, by k_ne, by k_ne⟩ ?_; assumption) | (refine And.intro ⟨by k_ne, by k_ne, by k_ne⟩ ?_; refine And.intro ⟨by k_ne, by k_ne, by k_ne⟩ ?_; assumption))) (by first | exact True.intro | exact Or.inl (Or.inl (by assumption)) | exact Or.inl (by assumption) | exact Or.inr ⟨_, by k_mem, rfl, _, rfl⟩) ?_)))
  k_with "my @CompEnd" => ((k_extra "my cend"))
  k_with "my @call ref" => ((k_here; (with_reducible show wpAny _ _ (call (Value.ref 45) _ _) _ _ _); k_dflt (refine' Tell.useR (by k_asm) (by k_asm) (by k_asm) (by k_asm) (by k_asm) (by first | exact rfl | assumption) (dimn_ _ _ _ _ _ _ _ _ _ _ _ _ _ _ _ _ _ _ _ _ _ _ _ _ _ _ _ _ _ _ _ _ _ _ _ _ _ _ _ _ _ _ _ _ _ ?_ ?_ ?_ (by assumption)) (by k_extra "my need") (by exact Nat.le_of_ble_eq_true rfl) (by exact Nat.le_of_ble_eq_true rfl) ?_; (try any_goals (refine id_prop ?_; first | first | assumption | omega)); (try any_goals (refine id_prop ?_; first | first | assumption | omega)); k_whole; intro bzz c1zz c2zz k1zz k2zz h'zz tk'zz F'zz N'zz l1zz; (try simp only [List.nil_append, List.cons_append] at N'zz); (have l2zz := difs_of (below2 l1zz).1; have l3zz := difs_of (below2 l1zz).2; have l4zz := difs_of (below3 l1zz); clear l1zz; (try simp only [List.nil_append, List.cons_append] at l2zz l3zz l4zz)); (try dsimp only); (try k_sweep))))
  k_with "my @subscriptTail Name Name ref int" => ((k_extra "my item"))
  k_with "my @subscriptTail Name Name ref int" => ((k_extra "my item"))
  k_with "my @call ref" => ((k_here; (with_reducible show wpAny _ _ (call (Value.ref 356) _ _) _ _ _); k_dflt (refine' Tell.useQ (by k_asm) (by k_asm) (by k_asm) (by k_asm) (by k_asm) (by first | exact rfl | assumption) (by k_extra "my need") (by exact Nat.le_of_ble_eq_true rfl) (by exact Nat.le_of_ble_eq_true rfl) (lroom_ _ _ _ _ _ _ _ _ _ _ _ _ _ _ _ _ _ (by first | assumption | exact hid_of (by assumption)) (by assumption)) ?_; k_whole; intro tkzz h'zz tk'zz F'zz N'zz l1zz; (try simp only [List.nil_append, List.cons_append] at N'zz); clear l1zz; (try dsimp only); (try k_sweep))))
  k_with "my @call ref" => ((k_here; (with_reducible show wpAny _ _ (call (Value.ref 349) _ _) _ _ _); k_dflt (refine' Tell.useQ (by k_asm) (by k_asm) (by k_asm) (by k_asm) (by k_asm) (by first | exact rfl | assumption) (by k_extra "my need") (by exact Nat.le_of_ble_eq_true rfl) (by exact Nat.le_of_ble_eq_true rfl) (roff_ _ _ _ _ _ _ _ _ _ _ _ _ _ _ ) ?_; k_whole; intro tkzz h'zz tk'zz F'zz N'zz l1zz; (try simp only [List.nil_append, List.cons_append] at N'zz); clear l1zz; (try dsimp only); (try k_sweep))))
  k_with "my @call ref" => ((k_here; (with_reducible show wpAny _ _ (call (Value.ref 370) _ _) _ _ _); k_dflt (refine' Tell.useQ (by k_asm) (by k_asm) (by k_asm) (by k_asm) (by k_asm) (by first | exact rfl | assumption) (by k_extra "my need") (by exact Nat.le_of_ble_eq_true rfl) (by exact Nat.le_of_ble_eq_true rfl) (chead_ _ _ _ _ _ _ _ _ _ _ _ _ _ _ _ _ _ _ _ _ (by omega) (by omega) (by assumption)) ?_; k_whole; intro tkzz h'zz tk'zz F'zz N'zz l1zz; (try simp only [List.nil_append, List.cons_append] at N'zz); clear l1zz; (try dsimp only); (try k_sweep))))
  trivial
theorem off_N1 : True := by
  w_top off
  trivial
-- part N1
theorem names1 (w : World) (x dx dd nv nd nl : Addr) (od : Obj) (it v1 v2 : Value) (nvs : List Value) (n : Nat) (t t1 t2 t3 t4 t5 s1 s2 s3 s4 s5 s6 : Tok) (hnl : nvs.length ≤ 10)
  (hlo : (dd == sysModules) = false) (hd : Obj.IsDictOf (PySem.strKind PySem.Challenge.rw_qd0173_01.row.prog w) od [(Str.ofString "class", v1), (Str.ofString "row.names", v2), (Str.ofString "names", Value.ref nv)]) :
  Tell 700 1300 w 33 [.ref x] [] [(x, instObj 199 dx), (dx, vecD w.params t1 t2 t3 t4 t5 (.str (Str.ofString "list") t) it (.ref dd)), (dd, od), (nv, instObj 199 nd), (nd, vecD w.params s1 s2 s3 s4 s5 (.str (Str.ofString "character") s6) (.ref nl) .none), (nl, lst nvs n)] []
    (fun R => ∀ b k, R (.ref b) [] [(b, lst nvs k)]) := by
  unfold Tell
  intro p loose mean mg mb gd cn cs ca ccd cl outer A₀ base h₀ L m news s Q E B F X N T hk hsep hret
  simp only [List.cons_append, List.nil_append] at N
  walk_at "tell enter"
  try k_fold
  k_steps
  exact hret _ _ _ _ (by assumption) (drop_to (by assumption) (by k_extra "my sub")) (by k_extra "my above")
theorem names0 (w : World) (x dx dd : Addr) (od : Obj) (it v1 v2 : Value) (t t1 t2 t3 t4 t5 : Tok)
  (hlo : (dd == sysModules) = false) (hd : Obj.IsDictOf (PySem.strKind PySem.Challenge.rw_qd0173_01.row.prog w) od [(Str.ofString "class", v1), (Str.ofString "row.names", v2)]) :
  Tell 700 1300 w 33 [.ref x] [] [(x, instObj 199 dx), (dx, vecD w.params t1 t2 t3 t4 t5 (.str (Str.ofString "list") t) it (.ref dd)), (dd, od)] []
    (fun R => R .none [] []) := by
  unfold Tell
  intro p loose mean mg mb gd cn cs ca ccd cl outer A₀ base h₀ L m news s Q E B F X N T hk hsep hret
  simp only [List.cons_append, List.nil_append] at N
  walk_at "tell enter"
  try k_fold
  k_steps
  exact hret _ _ (by assumption) (drop_to (by assumption) (by k_extra "my sub")) above0
theorem shown0 (w : World) :
  Tell 700 1300 w 342 [.none] [] [] [] (fun R => R .none [] []) := by
  unfold Tell
  intro p loose mean mg mb gd cn cs ca ccd cl outer A₀ base h₀ L m news s Q E B F X N T hk hsep hret
  simp only [List.cons_append, List.nil_append] at N
  walk_at "tell enter"
  try k_fold
  k_steps
  exact hret _ _ (by assumption) (drop_to (by assumption) (by k_extra "my sub")) above0
theorem ln_N11 : True := by
  k_with "my @CompEnd" => ((refine to_held ?_))
  trivial
theorem shown1 (w : World) (l : Addr) (vs : List Value) (xs : List Str) (n : Nat) (hi : StrsAre vs xs) (hc : ∀ p ∈ xs, Clean p) (hl : xs.length ≤ 10) :
  Tell 700 1300 w 342 [.ref l] [] [(l, lst vs n)] [] (fun R => ∀ b us k, StrsAre us xs → R (.ref b) [] [(b, lst us k)]) := by
  unfold Tell
  intro p loose mean mg mb gd cn cs ca ccd cl outer A₀ base h₀ L m news s Q E B F X N T hk hsep hret
  simp only [List.cons_append, List.nil_append] at N
  walk_at "tell enter"
  try k_fold
  k_steps
  refine of_held ?_
  rename Fr _ _ _ _ => lF
  rename News _ _ _ _ => lN
  have hlen : vs.length = xs.length := hi.length
  refine LCg.CompSrc.ledger (by rfl) lF lN (by k_dflt k_mem) (by rw [List.size_toArray, sizeLine_eq]; omega) ?_
  intro g'
  refine comp_txt xs (by rw [List.size_toArray]; exact hlen.symm) ?_ ?_
  · intro i r ys v I oI C oC D m₂ h tk E' hin hr hv hC hx F2 N2 off ne
    have hv' : vs[i]? = some v := by simpa using hv
    obtain ⟨y, ty, rfl, hy⟩ := hi.item i v hv'
    rw [hr] at hy
    cases hy
    have hcy := hc r (List.mem_of_getElem? hr)
    obtain ⟨hcy1, hcy2, hcy3, hcy4⟩ := hcy
    clear lF lN
    simp only [LCg.Off3] at off
    try k_fold
    k_steps
    refine of_held ?_
    exact LCg.CompEnd.intro (by assumption) (by assumption) _ (by k_extra "my sub") (by simp only [LCg.Off3]; exact off) (Or.inr ⟨_, by k_dflt k_mem, rfl, _, rfl⟩) ⟨rfl, _, rfl⟩
  · intro us hus
    try k_fold
    k_steps
    exact hret _ _ _ hus _ _ (by assumption) (drop_to (by assumption) (by k_extra "my sub")) (by k_extra "my above")
def rowNums (r : Nat) : List Int := (List.range r).map fun (i : Nat) => (i : Int) + 1
theorem rowNums_bd {r : Nat} (h : r ≤ 2) : (∀ k ∈ rowNums r, -100 ≤ k) ∧ (∀ k ∈ rowNums r, k ≤ 200) ∧ (rowNums r).length ≤ 10 := by
  have : r = 0 ∨ r = 1 ∨ r = 2 := by omega
  rcases this with rfl | rfl | rfl <;> decide
theorem flabels_ (w : World) (x dx dd nv nd nl : Addr) (od : Obj) (k0 it v1 : Value) (rest : List (Str × Value)) (nvs : List Value) (r n : Nat) (t1 t2 t3 t4 t5 s1 s2 s3 s4 s5 s6 : Tok) (hr : r ≤ 2) (hi : IntsAre nvs (rowNums r))
  (hlo : (dd == sysModules) = false) (hd : Obj.IsDictOf (PySem.strKind PySem.Challenge.rw_qd0173_01.row.prog w) od ((Str.ofString "class", v1) :: (Str.ofString "row.names", Value.ref nv) :: rest)) :
  Tell 600 1000 w 419 [.ref x] [] [(x, instObj 199 dx), (dx, vecD w.params t1 t2 t3 t4 t5 k0 it (.ref dd)), (dd, od), (nv, instObj 199 nd), (nd, vecD w.params s1 s2 s3 s4 s5 (.str (Str.ofString "integer") s6) (.ref nl) .none), (nl, lst nvs n)] []
    (fun R => ∀ b us k, StrsAre us (rowLabs r) → us.length = r → R (.ref b) [] [(b, lst us k)]) := by
  unfold Tell
  intro p loose mean mg mb gd cn cs ca ccd cl outer A₀ base h₀ L m news s Q E B F X N T hk hsep hret
  simp only [List.cons_append, List.nil_append] at N
  walk_at "tell enter"
  obtain ⟨hb1, hb2, hb3⟩ := rowNums_bd hr
  try k_fold
  k_steps
  rename StrsAre _ _ => hu
  have e : (rowNums r).map (fun k => Str.ofString (toString k)) = rowLabs r := by simp [rowNums, rowLabs]
  rw [e] at hu
  exact hret _ _ _ hu (by rw [hu.length]; simp [rowLabs]) _ _ (by assumption) (drop_to (by assumption) (by k_extra "my sub")) (by k_extra "my above")
-- part Lm
section
variable {prog : Program} {w : World} {A : Around} {h₀ : Heap} {L : Addr} {m : Str → Option Value} {env : Env} {elt : Expr} {x x₂ : Str} {scope : Scope} {cl : List (Str × Addr)} {s : Shared} {S : Led → Prop} {Fin : List Value → Led → Prop} {news g : Led}
theorem pieces_at {pvs : List Value} {pcs : List (Str × List Str)} (h : PiecesIn g pvs pcs) : ∀ {i : Nat} {v : Value}, pvs[i]? = some v → ∃ pc, pcs[i]? = some pc ∧ PieceIn g v pc := by
  induction h with
  | nil => intro i v hv; simp at hv
  | cons h _ ih =>
    intro i v hv
    cases i with
    | zero => simp at hv; subst hv; exact ⟨_, rfl, h⟩
    | succ i => simpa using ih (by simpa using hv)
theorem comp_pieces {its : Array Value} {pvs : List Value} {pcs : List (Str × List Str)} (El : Str × List Str → Value → Prop) (hP : PiecesIn g pvs pcs) (hg : ∀ p ∈ g, p ∈ news) (he : its = pvs.toArray)
    (turn : ∀ (i : Nat) pc t l us k ys I oI C oC D m₂ h tk (E' : Value → Shared → Prop), pcs[i]? = some pc → (l, lst us k) ∈ g → StrsAre us pc.2 → LCg.NsObj oC m₂ → m₂ x = some (.str pc.1 t) → m₂ x₂ = some (.ref l) → Fr h₀ L h m → News h₀ L h ((I, oI) :: (C, oC) :: (D, LCg.lst ys) :: news) → LCg.Off3 I C D news → ((@Ne Nat I C) ∧ (@Ne Nat I D) ∧ (@Ne Nat C D)) →
      wpAny (model prog w) A (eval elt (compEnvC scope cl C env)) (LCg.CompEnd h₀ L m { s with heap := h, toks := tk } I oI C oC D (LCg.lst ys) S (fun y nw' => nw' = news ∧ El pc y)) E' { s with heap := h, toks := tk })
    (fin : ∀ (ys : List Value), ys.length = pcs.length → (∀ (i : Nat) (pc : Str × List Str), pcs[i]? = some pc → ∃ y, ys[i]? = some y ∧ El pc y) → Fin ys news) : LCp.CompRestP prog w A h₀ L m env elt x x₂ scope cl s S (fun i v => its[i]? = some v) Fin its.size 0 [] news := by
  subst he
  have hl : pvs.length = pcs.length := hP.length
  have key : ∀ (j i : Nat) (ys : List Value), i + j = pvs.length → ys.length = i → (∀ (q : Nat) (pc : Str × List Str), q < i → pcs[q]? = some pc → ∃ y, ys[q]? = some y ∧ El pc y) → LCp.CompRestP prog w A h₀ L m env elt x x₂ scope cl s S (fun i v => pvs.toArray[i]? = some v) Fin j i ys news := by
    intro j
    induction j with
    | zero =>
      intro i ys hi hy hall
      refine LCp.CompRestP.zero (fin ys (by omega) fun q pc hq => hall q pc ?_ hq)
      have := (List.getElem?_eq_some_iff.mp hq).1
      omega
    | succ j ih =>
      intro i ys hi hy hall
      refine LCp.CompRestP.succ ?_
      intro v hv
      obtain ⟨pc, hpc, p, l, t, us, n, n2, rfl, h1, h2, h3⟩ := pieces_at hP (by simpa using hv)
      refine ⟨p, _, .str pc.1 t, .ref l, n2, rfl, hg _ h1, rfl, rfl, ?_⟩
      intro I oI C oC D m₂ h tk E' hC hx hx2 F N off ne
      refine wpAny_mono (turn i pc t l us n ys I oI C oC D m₂ h tk E' hpc h2 h3 hC hx hx2 F N off ne) (fun y s₂ hq => ?_) fun _ _ e => e
      obtain ⟨h', tk', nw', e, F', N', off', hS, rfl, hE⟩ := hq
      refine ⟨h', tk', _, e, F', N', off', hS, ih (i + 1) _ (by omega) (by simp [hy]) ?_⟩
      intro q pc' hq hp
      by_cases hqi : q < i
      · obtain ⟨y', hy', hE'⟩ := hall q pc' hqi hp
        exact ⟨y', by rw [List.getElem?_append_left (by omega)]; exact hy', hE'⟩
      · obtain rfl : q = i := by omega
        rw [hpc] at hp
        cases hp
        exact ⟨y, by rw [List.getElem?_append_right (by omega), hy]; simp, hE⟩
  have h := key pvs.length 0 [] (by omega) rfl (fun q _ hq => absurd hq (Nat.not_lt_zero _))
  simpa using h
end
theorem strs_of_get : ∀ {ys : List Value} {xs : List Str}, ys.length = xs.length → (∀ (i : Nat) (x : Str), xs[i]? = some x → ∃ t, ys[i]? = some (Value.str x t)) → StrsAre ys xs
  | [], [], _, _ => .nil
  | [], _ :: _, h, _ => by simp at h
  | _ :: _, [], h, _ => by simp at h
  | y :: ys, x :: xs, h, hall => by
    obtain ⟨t, ht⟩ := hall 0 x rfl
    simp at ht
    subst ht
    exact .cons x t (strs_of_get (by simpa using h) fun i z hz => by simpa using hall (i + 1) z (by simpa using hz))
theorem names_of_pieces {ys : List Value} {pcs : List (Str × List Str)} (hl : ys.length = pcs.length) (h : ∀ (i : Nat) (pc : Str × List Str), pcs[i]? = some pc → ∃ y, ys[i]? = some y ∧ ∃ t, y = Value.str pc.1 t) : StrsAre ys (pcs.map (·.1)) := by
  refine strs_of_get (by simpa using hl) fun i x hx => ?_
  rw [List.getElem?_map] at hx
  cases hp : pcs[i]? with
  | none => rw [hp] at hx; cases hx
  | some pc =>
    rw [hp] at hx; cases hx
    obtain ⟨y, hy, t, rfl⟩ := h i pc hp
    exact ⟨t, hy⟩
theorem cols_of_pieces {g : Led} {ys : List Value} {pcs : List (Str × List Str)} (hl : ys.length = pcs.length) (h : ∀ (i : Nat) (pc : Str × List Str), pcs[i]? = some pc → ∃ y, ys[i]? = some y ∧ ∃ l us k, y = Value.ref l ∧ (l, lst us k) ∈ g ∧ StrsAre us pc.2) : ColsIn g ys (pcs.map (·.2)) := by
  refine ⟨by simpa using hl, fun i x hx => ?_⟩
  rw [List.getElem?_map] at hx
  cases hp : pcs[i]? with
  | none => rw [hp] at hx; cases hx
  | some pc =>
    rw [hp] at hx; cases hx
    obtain ⟨y, hy, l, us, k, rfl, h1, h2⟩ := h i pc hp
    exact ⟨l, us, k, hy, h1, h2⟩
/-- the columns of a frame, each with the pieces that it shows -/
inductive Cols (w : World) (r : Int) (g : Led) : List Value → List Str → List (List (Str × List Str)) → Prop
  | nil : Cols w r g [] [] []
  | cons {a : Addr} {nm : Str} {need : Led} {pcs : List (Str × List Str)} {xvs : List Value} {nms : List Str} {pcss : List (List (Str × List Str))} : Shows w a r nm need pcs → Fine r pcs → (∀ p ∈ need, p ∈ g) → Cols w r g xvs nms pcss → Cols w r g (.ref a :: xvs) (nm :: nms) (pcs :: pcss)
theorem Cols.mono {w : World} {r : Int} {g g' : Led} {xvs : List Value} {nms : List Str} {pcss : List (List (Str × List Str))} (h : Cols w r g xvs nms pcss) (hs : ∀ p ∈ g, p ∈ g') : Cols w r g' xvs nms pcss := by
  induction h with
  | nil => exact .nil
  | cons a b c _ ih => exact .cons a b (fun p hp => hs p (c p hp)) ih
theorem Cols.snoc {w : World} {r : Int} {g : Led} {xvs : List Value} {nms : List Str} {pcss : List (List (Str × List Str))} {a : Addr} {nm : Str} {need : Led} {pcs : List (Str × List Str)} (h : Cols w r g xvs nms pcss) (h1 : Shows w a r nm need pcs) (h2 : Fine r pcs) (h3 : ∀ p ∈ need, p ∈ g) : Cols w r g (xvs ++ [.ref a]) (nms ++ [nm]) (pcss ++ [pcs]) := by
  induction h with
  | nil => exact .cons h1 h2 h3 .nil
  | cons a b c _ ih => exact .cons a b c ih
theorem Cols.at {w : World} {r : Int} {g : Led} {xvs : List Value} {nms : List Str} {pcss : List (List (Str × List Str))} (h : Cols w r g xvs nms pcss) : ∀ {i : Nat}, i < xvs.length → ∃ a nm need pcs, xvs[i]? = some (Value.ref a) ∧ nms[i]? = some nm ∧ pcss[i]? = some pcs ∧ Shows w a r nm need pcs ∧ Fine r pcs ∧ ∀ p ∈ need, p ∈ g := by
  induction h with
  | nil => intro i hi; exact absurd hi (Nat.not_lt_zero _)
  | cons a b c _ ih =>
    intro i hi
    cases i with
    | zero => exact ⟨_, _, _, _, rfl, rfl, rfl, a, b, c⟩
    | succ i => simpa using ih (Nat.lt_of_succ_lt_succ hi)
theorem Cols.len {w : World} {r : Int} {g : Led} {xvs : List Value} {nms : List Str} {pcss : List (List (Str × List Str))} (h : Cols w r g xvs nms pcss) : nms.length = xvs.length ∧ pcss.length = xvs.length := by
  induction h with
  | nil => exact ⟨rfl, rfl⟩
  | cons _ _ _ _ ih => exact ⟨by simp [ih.1], by simp [ih.2]⟩
/-- all pieces: how many, and how wide -/
theorem Cols.fine {w : World} {r : Int} {g : Led} {xvs : List Value} {nms : List Str} {pcss : List (List (Str × List Str))} (h : Cols w r g xvs nms pcss) : xvs.length ≤ pcss.flatten.length ∧ pcss.flatten.length ≤ 2 * xvs.length ∧ ∀ pc ∈ pcss.flatten, pc.1.length ≤ 10 ∧ pc.2.length = r.toNat ∧ ∀ z ∈ pc.2, z.length ≤ 10 := by
  induction h with
  | nil => exact ⟨Nat.le_refl _, Nat.le_refl _, fun _ h => nomatch h⟩
  | cons _ b _ _ ih =>
    obtain ⟨b1, b2, b3⟩ := b
    obtain ⟨i1, i2, i3⟩ := ih
    refine ⟨by simp only [List.flatten_cons, List.length_append, List.length_cons]; omega, by simp only [List.flatten_cons, List.length_append, List.length_cons]; omega, ?_⟩
    intro pc hp
    rw [List.flatten_cons] at hp
    rcases List.mem_append.mp hp with hp | hp
    · exact b3 pc hp
    · exact i3 pc hp
theorem flat_step {α : Type} {l : List (List α)} {i : Nat} {y : List α} (h : l[i]? = some y) : (l.take (i + 1)).flatten = (l.take i).flatten ++ y := by
  rw [take_step h]; simp
theorem rot_news {h₀ h : Heap} {L : Addr} {q : Addr × Obj} {g2 l : Led} (ex : Led) (N : News h₀ L h (q :: (g2 ++ (ex ++ l)))) : News h₀ L h (q :: (ex ++ (g2 ++ l))) := drop_to N fun p hp => by
  simp only [List.mem_cons, List.mem_append] at hp ⊢
  rcases hp with h | h | h | h
  · exact .inl h
  · exact .inr (.inr (.inl h))
  · exact .inr (.inl h)
  · exact .inr (.inr (.inr h))
theorem off_flip {D : Addr} {o : Obj} {g l : Led} (h : ∀ q ∈ g, LCg.Off1 q.1 l) (hm : (D, o) ∈ l) : LCg.Off1 D g := off_of fun q hq e => off_mem (h q hq) _ hm e.symm
theorem grow_any {h₀ : Heap} {L : Addr} {x : Str} {stored : List Str} {m₀ : Str → Option Value} {fo : Addr} {ex news : Led} {P : Nat → List Value → Led → Prop} {i : Nat} {it : Addr × Obj} {s₁ : Shared} {h' : Heap} {tk : Nat} {m' : Str → Option Value} {all : Led} (pvs : List Value) {k' : Nat} (g' : Led)
    (F' : Fr h₀ L h' m') (N' : News h₀ L h' all) (hs : ∀ p ∈ it :: (fo, lst pvs k') :: (ex ++ (g' ++ news)), p ∈ all) (o1 : LCg.Off1 it.1 g') (o2 : LCg.Off1 fo g') (o3 : ∀ q ∈ g', LCg.Off1 q.1 news) (hm : ∀ z, z ≠ x → stored.contains z = false → m' z = m₀ z) (hP : P i pvs g') :
    GrowEnd h₀ L x stored m₀ fo ex news P i it s₁ { s₁ with heap := h', toks := tk } := ⟨h', tk, m', _, k', g', rfl, F', drop_to N' hs, o1, o2, o3, hm, hP⟩
theorem get_shift {l : List Value} {i : Nat} {v : Value} (h : l[i]? = some v) : l[(0 + (i : Int)).toNat]? = some v := by
  have e0 : (0 + (i : Int)).toNat = i := by omega
  rw [e0]; exact h
theorem cols_bd {pcs : List (Str × List Str)} {r : Nat} (h : ∀ pc ∈ pcs, pc.1.length ≤ 10 ∧ pc.2.length = r ∧ ∀ z ∈ pc.2, z.length ≤ 10) {xs : List Str} (hx : xs ∈ pcs.map (·.2)) : xs.length = r ∧ ∀ z ∈ xs, z.length ≤ 10 := by
  obtain ⟨pc, hp, rfl⟩ := List.mem_map.mp hx
  exact (h pc hp).2
theorem na_list {D : Addr} {h₀ h : Heap} {L : Addr} {n k : Nat} {tk : Tok} {p0 : Addr × Obj} {rest : Led} {nms : List Str} (N : News h₀ L h (p0 :: (D, W.listOf (List.replicate ((n : Int)).toNat (Value.str (Str.ofString "NA") tk)).toArray k) :: rest)) (hn : nms.length = n) (hna : ∀ p ∈ nms, p = Str.ofString "NA") :
    ∃ hv, StrsAre hv nms ∧ News h₀ L h (p0 :: (D, lst hv k) :: rest) := by
  have e : nms = List.replicate n (Str.ofString "NA") := List.eq_replicate_iff.mpr ⟨hn, hna⟩
  refine ⟨_, ?_, N⟩
  rw [e]
  exact strs_rep _ _ _
theorem hc_both {c : Nat} (h : HC c) : 1 ≤ c ∧ c ≤ 6 := h
def framed (r : Nat) (pcs : List (Str × List Str)) : List Str :=
  lineOf (Str.ofString " ") (pcs.map (·.1)) (widthsOf (pcs.map (·.1)) (pcs.map (·.2))) :: (List.range r).map (rowLine (pcs.map (·.2)) (widthsOf (pcs.map (·.1)) (pcs.map (·.2))))
theorem reg_PJ : True := by
  w_top off
  k_with_none
  k_with "tell start" => ((unfold Tell; intro pzz loosezz meanzz mgzz mbzz gdzz cnzz cszz cazz ccdzz clzz outerzz A₀zz basezz h₀zz Lzz mzz newszz szz Qzz Ezz Bzz Fzz Xzz Nzz Tzz hkzz hsepzz hretzz; simp only [List.cons_append, List.nil_append] at Nzz; walk_at "tell enter"))
  k_with "my @call ref" => ((k_here; (with_reducible show wpAny _ _ (call (Value.ref _) _ _) _ _ _); first | walk_at "tell enter" | walk_at "tell enterC"))
  k_with "my cn" => (first | with_reducible exact And.left | with_reducible exact cn_id | ((with_reducible refine cn_sk ?_); k_extra "my cn"))
  k_with "my conj" => ((k_whole; (with_reducible refine cn_pick (by with_reducible assumption) ?_); k_extra "my cn"))
  k_with "my nn" => (first | with_reducible exact sd1 | with_reducible exact sd2 | with_reducible exact sd3 | with_reducible exact sd4 | with_reducible exact sd5 | with_reducible exact sd6 | with_reducible exact sd7 | with_reducible exact se1 | with_reducible exact se2 | with_reducible exact se3 | with_reducible exact se4 | with_reducible exact se5 | with_reducible exact se6 | with_reducible exact se7 | ((with_reducible refine su ?_); k_extra "my nn"))
  k_with "my lt0" => (first | with_reducible assumption | k_extra "my conj")
  k_with "my hyp" => (first | with_reducible assumption | with_reducible exact And.left (by with_reducible assumption) | with_reducible exact And.right (by with_reducible assumption))
  k_with "my omega" => ((k_whole; first | with_reducible assumption | decide | ((with_reducible show @Ne Nat _ _); first | (k_extra "my nn") | with_reducible exact nu1 (by k_extra "my lt0") | with_reducible exact nu2 (by k_extra "my lt0") | with_reducible exact nu3 (by k_extra "my lt0") | with_reducible exact nu4 (by k_extra "my lt0") | with_reducible exact nu5 (by k_extra "my lt0") | with_reducible exact nu6 (by k_extra "my lt0") | with_reducible exact nu7 (by k_extra "my lt0") | with_reducible exact nv1 (by k_extra "my lt0") | with_reducible exact nv2 (by k_extra "my lt0") | with_reducible exact nv3 (by k_extra "my lt0") | with_reducible exact nv4 (by k_extra "my lt0") | with_reducible exact nv5 (by k_extra "my lt0") | with_reducible exact nv6 (by k_extra "my lt0") | with_reducible exact nv7 (by k_extra "my lt0") | with_reducible exact ne_l (by k_extra "my lt0") | with_reducible exact ne_r (by k_extra "my lt0")) | ((with_reducible show @LE.le Nat _ _ _); first | with_reducible exact qm1 (by k_extra "my hyp") (by k_extra "my hyp") (by first | with_reducible exact mx2 (by with_reducible assumption) (by k_extra "my hyp") (by k_extra "my hyp") | with_reducible exact mx3 (by with_reducible assumption) (by k_extra "my hyp") (by k_extra "my hyp") (by k_extra "my hyp")) (by decide) | with_reducible exact qm2 (by k_extra "my hyp") (by first | with_reducible exact mx2 (by with_reducible assumption) (by k_extra "my hyp") (by k_extra "my hyp") | with_reducible exact mx3 (by with_reducible assumption) (by k_extra "my hyp") (by k_extra "my hyp") (by k_extra "my hyp")) (by decide) | with_reducible exact qn1 (by k_extra "my hyp") (by decide) | with_reducible exact qn2 (by k_extra "my hyp") (by decide) | with_reducible exact qn8 (by k_extra "my hyp") (by k_extra "my hyp") (by decide) | with_reducible exact qn7 (by k_extra "my hyp") (by k_extra "my hyp") (by decide) | with_reducible exact qn10 (by k_extra "my hyp") (by k_extra "my hyp") (by decide) | with_reducible exact qn14 (by k_extra "my hyp") (by k_extra "my hyp") (by decide) | with_reducible exact qn13 (by k_extra "my hyp") (by decide) | with_reducible exact qn5 (by k_extra "my hyp") (by decide) | with_reducible exact qn6 (by k_extra "my hyp") (by k_extra "my hyp") (by decide) | with_reducible exact qn6b (by k_extra "my hyp") (by k_extra "my hyp") (by decide) | with_reducible exact qn6c (by k_extra "my hyp") (by k_extra "my hyp") (by decide) | with_reducible exact qn11 (by k_extra "my hyp") (by decide)) | ((with_reducible show @LT.lt Nat _ _ _); first | with_reducible exact qn3 (by k_extra "my hyp") (by decide) | with_reducible exact qn4 (by k_extra "my hyp") (by decide) | with_reducible exact qn9 (by k_extra "my hyp") (by k_extra "my hyp") (by decide) | with_reducible exact qn12 (by k_extra "my hyp") (by k_extra "my hyp") (by decide)) | ((with_reducible show @LE.le Int _ _ _); first | with_reducible exact qi1 (by k_extra "my hyp") (by decide) | with_reducible exact qi2 (by k_extra "my hyp") (by decide) | with_reducible exact qi5 (by k_extra "my hyp") (by decide) | with_reducible exact qi6 (by k_extra "my hyp") (by decide) | with_reducible exact qc5 (by decide) | with_reducible exact qc2 (by k_extra "my hyp") (by decide) | with_reducible exact qc7 (by decide) | with_reducible exact qc4 (by k_extra "my hyp") (by decide) | with_reducible exact qc11 (by decide) | with_reducible exact qc13 (by k_extra "my hyp") (by decide) | with_reducible exact qq1 (by k_extra "my hyp") (by decide) | with_reducible exact qq2 (by k_extra "my hyp") (by decide) | with_reducible exact qi10 (by k_extra "my hyp") (by decide)) | ((with_reducible show @LT.lt Int _ _ _); first | with_reducible exact mxi2 (by with_reducible assumption) (by k_extra "my hyp") (by k_extra "my hyp") (by decide) | with_reducible exact mxi3 (by with_reducible assumption) (by k_extra "my hyp") (by k_extra "my hyp") (by k_extra "my hyp") (by decide) | with_reducible exact qc14 (by with_reducible assumption) (by decide) | with_reducible exact qi3 (by k_extra "my hyp") (by decide) | with_reducible exact qi4 (by k_extra "my hyp") (by decide) | with_reducible exact qi7 (by k_extra "my hyp") (by decide) | with_reducible exact qi8 (by k_extra "my hyp") (by decide) | with_reducible exact qc6 (by decide) | with_reducible exact qc1 (by k_extra "my hyp") (by decide) | with_reducible exact qc8 (by decide) | with_reducible exact qc3 (by k_extra "my hyp") (by decide) | with_reducible exact qc12 (by decide) | with_reducible exact qc9 (by k_extra "my hyp") (by decide) | with_reducible exact qi9 (by k_extra "my hyp") (by decide)) | ((with_reducible show @Eq Nat _ _); first | with_reducible exact qe1 | with_reducible exact qe2) | ((with_reducible show Not _); first | with_reducible exact qc10 (by k_extra "my hyp") (by decide))))
  k_with "my ne" => (((refine neN ?_); (try dsimp only); first | with_reducible assumption | exact dif_ne (by with_reducible assumption) | exact dif_ne' (by with_reducible assumption) | k_extra "my difne" | with_reducible exact ne_l (by k_extra "my conj") | with_reducible exact ne_r (by k_extra "my conj") | omega))
  k_with "my difne" => (first | (refine difs_pick (by with_reducible assumption) ?_; intro h9zz; first | exact difs_at h9zz 0 rfl | exact difs_at h9zz 1 rfl | exact difs_at h9zz 2 rfl | exact difs_at h9zz 3 rfl | exact difs_at h9zz 4 rfl | exact difs_at h9zz 5 rfl | exact difs_at h9zz 6 rfl | exact difs_at h9zz 7 rfl | exact difs_at h9zz 8 rfl | exact difs_at h9zz 9 rfl | exact difs_at h9zz 10 rfl | exact difs_at h9zz 11 rfl | exact difs_at h9zz 12 rfl | exact difs_at h9zz 13 rfl | exact difs_at h9zz 14 rfl | exact difs_at h9zz 15 rfl | exact difs_at h9zz 16 rfl | exact difs_at h9zz 17 rfl | exact difs_at h9zz 18 rfl | exact difs_at h9zz 19 rfl | exact difs_at h9zz 20 rfl | exact difs_at h9zz 21 rfl | exact difs_at h9zz 22 rfl | exact difs_at h9zz 23 rfl | exact difs_at h9zz 24 rfl | exact difs_at h9zz 25 rfl | exact difs_at h9zz 26 rfl | exact difs_at h9zz 27 rfl | exact difs_at h9zz 28 rfl | exact difs_at h9zz 29 rfl | exact difs_at h9zz 30 rfl | exact difs_at h9zz 31 rfl | exact difs_at h9zz 32 rfl | exact difs_at h9zz 33 rfl | exact difs_at h9zz 34 rfl | exact difs_at h9zz 35 rfl | exact difs_at h9zz 36 rfl | exact difs_at h9zz 37 rfl | exact difs_at h9zz 38 rfl | exact difs_at h9zz 39 rfl) | (refine difs_pick' (by with_reducible assumption) ?_; intro h9zz; first | exact difs_at' h9zz 0 rfl | exact difs_at' h9zz 1 rfl | exact difs_at' h9zz 2 rfl | exact difs_at' h9zz 3 rfl | exact difs_at' h9zz 4 rfl | exact difs_at' h9zz 5 rfl | exact difs_at' h9zz 6 rfl | exact difs_at' h9zz 7 rfl | exact difs_at' h9zz 8 rfl | exact difs_at' h9zz 9 rfl | exact difs_at' h9zz 10 rfl | exact difs_at' h9zz 11 rfl | exact difs_at' h9zz 12 rfl | exact difs_at' h9zz 13 rfl | exact difs_at' h9zz 14 rfl | exact difs_at' h9zz 15 rfl | exact difs_at' h9zz 16 rfl | exact difs_at' h9zz 17 rfl | exact difs_at' h9zz 18 rfl | exact difs_at' h9zz 19 rfl | exact difs_at' h9zz 20 rfl | exact difs_at' h9zz 21 rfl | exact difs_at' h9zz 22 rfl | exact difs_at' h9zz 23 rfl | exact difs_at' h9zz 24 rfl | exact difs_at' h9zz 25 rfl | exact difs_at' h9zz 26 rfl | exact difs_at' h9zz 27 rfl | exact difs_at' h9zz 28 rfl | exact difs_at' h9zz 29 rfl | exact difs_at' h9zz 30 rfl | exact difs_at' h9zz 31 rfl | exact difs_at' h9zz 32 rfl | exact difs_at' h9zz 33 rfl | exact difs_at' h9zz 34 rfl | exact difs_at' h9zz 35 rfl | exact difs_at' h9zz 36 rfl | exact difs_at' h9zz 37 rfl | exact difs_at' h9zz 38 rfl | exact difs_at' h9zz 39 rfl))
  k_with "my ctl" => (first | with_reducible exact ct_all | with_reducible exact ct_left | with_reducible exact ct_right | with_reducible exact ct_nil | with_reducible exact ct_one | ((with_reducible refine ct_keep ?_); k_extra "my ctl") | ((with_reducible refine ct_skip ?_); k_extra "my ctl"))
  k_with "my o3l" => (first | with_reducible exact o3_id | with_reducible exact o3_nil | ((with_reducible refine o3_keep ?_); k_extra "my o3l") | ((with_reducible refine o3_skip ?_); k_extra "my o3l"))
  k_with "my o3" => (first | with_reducible assumption | ((try simp only [List.cons_append, List.nil_append]); refine off3By (by with_reducible assumption) ?_; k_extra "my o3l") | (refine And.intro ⟨by k_ne, by k_ne, by k_ne⟩ ?_; k_extra "my o3"))
  k_with "my okl" => (first | with_reducible exact ok_id | with_reducible exact ok_left | with_reducible exact ok_right | with_reducible exact ok_nil | ((with_reducible refine ok_keep ?_); k_extra "my okl") | ((with_reducible refine ok_skip ?_); k_extra "my okl"))
  k_with "my offtail" => (first | with_reducible exact off_difs (by with_reducible assumption) | exact off_lt (by with_reducible assumption) | exact off_of (by with_reducible assumption) | exact off_all (by with_reducible assumption) | exact off_left (by with_reducible assumption) | exact off_right (by with_reducible assumption) | exact off_lt (all_up (by with_reducible assumption)) | exact off_lt (all_up (all_up (by with_reducible assumption))) | exact off_lt (all_up (all_up (all_up (by with_reducible assumption)))) | exact off_lt (all_up (all_up (all_up (all_up (by with_reducible assumption))))) | exact off_lt (all_up (all_up (all_up (all_up (all_up (by with_reducible assumption)))))) | exact off_lt (all_up (all_up (all_up (all_up (all_up (all_up (by with_reducible assumption))))))) | exact off_lt (And.right (by with_reducible assumption)) | exact And.right (by with_reducible assumption) | exact off_lt (And.right (And.right (by with_reducible assumption))) | exact And.right (And.right (by with_reducible assumption)) | exact off_lt (And.right (And.right (And.right (by with_reducible assumption)))) | exact And.right (And.right (And.right (by with_reducible assumption))) | exact off_lt (And.right (And.right (And.right (And.right (by with_reducible assumption))))) | exact And.right (And.right (And.right (And.right (by with_reducible assumption)))) | exact off_lt (And.right (And.right (And.right (And.right (And.right (by with_reducible assumption)))))) | exact And.right (And.right (And.right (And.right (And.right (by with_reducible assumption))))) | exact off_lt (And.right (And.right (And.right (And.right (And.right (And.right (by with_reducible assumption))))))) | exact And.right (And.right (And.right (And.right (And.right (And.right (by with_reducible assumption)))))) | exact off_lt (And.right (And.right (And.right (And.right (And.right (And.right (And.right (by with_reducible assumption)))))))) | exact And.right (And.right (And.right (And.right (And.right (And.right (And.right (by with_reducible assumption))))))) | exact off_lt (And.right (And.right (And.right (And.right (And.right (And.right (And.right (And.right (by with_reducible assumption))))))))) | exact And.right (And.right (And.right (And.right (And.right (And.right (And.right (And.right (by with_reducible assumption)))))))) | exact off_lt (And.right (And.right (And.right (And.right (And.right (And.right (And.right (And.right (And.right (by with_reducible assumption)))))))))) | exact And.right (And.right (And.right (And.right (And.right (And.right (And.right (And.right (And.right (by with_reducible assumption))))))))) | exact off_lt (And.right (And.right (And.right (And.right (And.right (And.right (And.right (And.right (And.right (And.right (by with_reducible assumption))))))))))) | exact And.right (And.right (And.right (And.right (And.right (And.right (And.right (And.right (And.right (And.right (by with_reducible assumption)))))))))) | exact off_lt (And.right (And.right (And.right (And.right (And.right (And.right (And.right (And.right (And.right (And.right (And.right (by with_reducible assumption)))))))))))) | exact And.right (And.right (And.right (And.right (And.right (And.right (And.right (And.right (And.right (And.right (And.right (by with_reducible assumption))))))))))) | exact off_lt (And.right (And.right (And.right (And.right (And.right (And.right (And.right (And.right (And.right (And.right (And.right (And.right (by with_reducible assumption))))))))))))) | exact And.right (And.right (And.right (And.right (And.right (And.right (And.right (And.right (And.right (And.right (And.right (And.right (by with_reducible assumption)))))))))))) | exact off_lt (And.right (And.right (And.right (And.right (And.right (And.right (And.right (And.right (And.right (And.right (And.right (And.right (And.right (by with_reducible assumption)))))))))))))) | exact And.right (And.right (And.right (And.right (And.right (And.right (And.right (And.right (And.right (And.right (And.right (And.right (And.right (by with_reducible assumption))))))))))))) | exact off_lt (And.right (And.right (And.right (And.right (And.right (And.right (And.right (And.right (And.right (And.right (And.right (And.right (And.right (And.right (by with_reducible assumption))))))))))))))) | exact And.right (And.right (And.right (And.right (And.right (And.right (And.right (And.right (And.right (And.right (And.right (And.right (And.right (And.right (by with_reducible assumption)))))))))))))))
  k_with "my off1" => (first | exact True.intro | with_reducible assumption | exact off_difs (by with_reducible assumption) | (refine offBy (by with_reducible assumption) ?_; k_extra "my okl") | (refine offByC (by with_reducible assumption) ?_; k_extra "my ctl") | (refine And.intro ?_ ?_; (k_extra "my ne"); k_extra "my off1") | k_extra "my offtail")
  k_with "my above" => (first | exact above0 | (simp only [List.nil_append, List.cons_append]; k_extra "my above") | (refine aboveC ?_ ?_; (k_extra "my off1"); (k_extra "my above")))
  k_with "my need" => (first | exact List.forall_mem_nil _ | (refine' List.forall_mem_cons.mpr ⟨(by k_mem), (by k_extra "my need")⟩))
  k_with "my split" => (skip)
  k_with "my @call builtin:list.pop" => ((k_here; k_dflt (refine' pop0 (by k_asm) (by k_asm) (by k_upd) (by first | assumption | (simp only [List.length_cons] at *; omega)) ?_; k_whole); intro h'zz F'zz N'zz; (try dsimp only [List.nil_append, List.cons_append] at N'zz)))
  k_with "my len" => (((try dsimp only); (try simp only [rjust_len, ljust_len, Str.length_append, len_space, len_nil, len_dot]); omega))
  k_with "my @binaryOp Add str str" => ((k_here; (with_reducible show wpAny _ _ (binaryOp Operator.Add (Value.str _ _) (Value.str _ _)) _ _ _); refine add_ (by k_extra "my len") ?_; intro _ _))
  k_with "my strs" => (first | with_reducible assumption | exact StrsAre.nil | (refine' StrsAre.cons _ _ (by k_extra "my strs")))
  k_with "my @call builtin:str.join" => ((k_here; (with_reducible show wpAny _ _ (call (Value.builtin "str.join") [Value.str _ _, Value.ref _]) _ _ _); k_dflt (refine' k_join (by k_asm) (by k_mem) (by (with_unfolding_all k_extra "my strs")) (by k_extra "my each") (by exact Nat.le_of_ble_eq_true rfl) ?_; k_whole; intro _ _)))
  k_with "my tlen" => (first | decide | exact Nat.le_trans (num_len (by omega) (by omega)) (by decide) | k_extra "my len")
  k_with "my each" => (first | assumption | exact List.forall_mem_nil _ | (refine List.forall_mem_cons.mpr ⟨by k_extra "my tlen", ?_⟩; k_extra "my each"))
  k_with "my @compareOp In str str" => ((k_here; refine in_no (by assumption) ?_))
  k_with "my @call builtin:str.isprintable" => ((k_here; refine KXw.isprintable (b := true) (by assumption) ?_))
  k_with "my @WhlIf" => ((refine WhlIf.no (decide_eq_false (by rw [pow18]; omega)) ?_))
  k_with "my @subscriptTail Attribute" => ((k_here; k_dflt (refine kba_turn (value' := PySem.Expr.Name (PySem.Str.ofString "_") ⟨0, 0, 0, 0⟩) (fun _ => rfl) ?_)))
  k_with "my @subscriptTail Subscript" => ((k_here; k_dflt (refine kba_turn (value' := PySem.Expr.Name (PySem.Str.ofString "_") ⟨0, 0, 0, 0⟩) (fun _ => rfl) ?_)))
  k_with "my @execs cons Assign cons" => (first | (k_here; k_gentoks) | ((with_reducible refine wpAny_execs_cons ?_); try dsimp only))
  k_with "my @execs cons" => (first | (k_here; k_gentoks) | ((with_reducible refine wpAny_execs_cons ?_); try dsimp only))
  k_with "my @exec Assign" => ((k_here; (with_reducible show wpAny _ _ (exec (PySem.Stmt.Assign [PySem.Expr.Name _ _] _ _) _) _ _ _); k_dflt (refine wpAny_Assign_Name ?_)))
  k_with "my @exec While" => ((k_here; k_dflt (refine whl_start 100 ?_)))
  k_with "my pull" => (first | exact Pull.head | (refine' Pull.tail (by k_extra "my pull")))
  k_with "my @call ref" => ((k_here; (with_reducible show wpAny _ _ (call (Value.ref 66) _ _) _ _ _); k_dflt (refine' Tell.useQ (by k_asm) (by k_asm) (by k_asm) (by k_asm) (by k_asm) (by first | exact rfl | assumption) (by k_extra "my need") (by exact Nat.le_of_ble_eq_true rfl) (by exact Nat.le_of_ble_eq_true rfl) (whole_ _ _ _ (by omega) (by omega)) ?_; k_whole; intro tkzz h'zz tk'zz F'zz N'zz l1zz; (try simp only [List.nil_append, List.cons_append] at N'zz); clear l1zz; (try dsimp only); (try k_sweep))))
  k_with "my @call ref" => ((k_here; (with_reducible show wpAny _ _ (call (Value.ref 377) _ _) _ _ _); k_dflt (refine' Tell.useQ (by k_asm) (by k_asm) (by k_asm) (by k_asm) (by k_asm) (by first | exact rfl | assumption) (by k_extra "my need") (by exact Nat.le_of_ble_eq_true rfl) (by exact Nat.le_of_ble_eq_true rfl) (padded_ _ _ _ _ _ (by omega) (by omega) (by k_extra "my len")) ?_; k_whole; intro tkzz h'zz tk'zz F'zz N'zz l1zz; (try simp only [List.nil_append, List.cons_append] at N'zz); clear l1zz; (try dsimp only); (try k_sweep))))
  k_with "my @call ref" => ((k_here; (with_reducible show wpAny _ _ (call (Value.ref 243) _ _) _ _ _); k_dflt (refine' Tell.useQ (by k_asm) (by k_asm) (by k_asm) (by k_asm) (by k_asm) (by first | exact rfl | assumption) (by k_extra "my need") (by exact Nat.le_of_ble_eq_true rfl) (by exact Nat.le_of_ble_eq_true rfl) (encode_ _ _ _ (by first | assumption | decide +kernel) (by first | assumption | decide +kernel) (by first | assumption | decide +kernel)) ?_; k_whole; intro tkzz h'zz tk'zz F'zz N'zz l1zz; (try simp only [List.nil_append, List.cons_append] at N'zz); clear l1zz; (try dsimp only); (try k_sweep))))
  k_with "my @call ref" => ((k_here; (with_reducible show wpAny _ _ (call (Value.ref 278) _ _) _ _ _); k_dflt (refine' Tell.useQ (by k_asm) (by k_asm) (by k_asm) (by k_asm) (by k_asm) (by first | exact rfl | assumption) (by k_extra "my need") (by exact Nat.le_of_ble_eq_true rfl) (by exact Nat.le_of_ble_eq_true rfl) (widest2 _ _ _ _ _ _ _ (by k_extra "my len") (by k_extra "my len")) ?_; k_whole; intro tkzz h'zz tk'zz F'zz N'zz l1zz; (try simp only [List.nil_append, List.cons_append] at N'zz); clear l1zz; (try dsimp only); (try k_sweep))))
  k_with "my @call ref" => ((k_here; (with_reducible show wpAny _ _ (call (Value.ref 278) _ _) _ _ _); k_dflt (refine' Tell.useQ (by k_asm) (by k_asm) (by k_asm) (by k_asm) (by k_asm) (by first | exact rfl | assumption) (by k_extra "my need") (by exact Nat.le_of_ble_eq_true rfl) (by exact Nat.le_of_ble_eq_true rfl) (widest1 _ _ _ _ _ (by k_extra "my len")) ?_; k_whole; intro tkzz h'zz tk'zz F'zz N'zz l1zz; (try simp only [List.nil_append, List.cons_append] at N'zz); clear l1zz; (try dsimp only); (try k_sweep))))
  k_with "my @call ref" => ((k_here; (with_reducible show wpAny _ _ (call (Value.ref 199) [_, _, _] _) _ _ _); k_dflt (refine' Tell.useQ (by k_asm) (by k_asm) (by k_asm) (by k_asm) (by k_asm) (by first | exact rfl | assumption) (by k_extra "my need") (by exact Nat.le_of_ble_eq_true rfl) (by exact Nat.le_of_ble_eq_true rfl) (vector3 _ _ _ _) ?_; k_whole; intro xzz dxzz t1zz t2zz t3zz t4zz t5zz hxzz h'zz tk'zz F'zz N'zz l1zz; (try simp only [List.nil_append, List.cons_append] at N'zz); (have l2zz := difs_of (below2 l1zz).1; have l3zz := difs_of (below2 l1zz).2; clear l1zz; (try simp only [List.nil_append, List.cons_append] at l2zz l3zz); skip); (try dsimp only); (try k_sweep))))
  k_with "my @call ref" => ((k_here; (with_reducible show wpAny _ _ (call (Value.ref 199) [_, _] _) _ _ _); k_dflt (refine' Tell.useQ (by k_asm) (by k_asm) (by k_asm) (by k_asm) (by k_asm) (by first | exact rfl | assumption) (by k_extra "my need") (by exact Nat.le_of_ble_eq_true rfl) (by exact Nat.le_of_ble_eq_true rfl) (vector2 _ _ _) ?_; k_whole; intro xzz dxzz t1zz t2zz t3zz t4zz t5zz hxzz h'zz tk'zz F'zz N'zz l1zz; (try simp only [List.nil_append, List.cons_append] at N'zz); (have l2zz := difs_of (below2 l1zz).1; have l3zz := difs_of (below2 l1zz).2; clear l1zz; (try simp only [List.nil_append, List.cons_append] at l2zz l3zz); skip); (try dsimp only); (try k_sweep))))
  k_with "my @call ref" => ((k_here; (with_reducible show wpAny _ _ (call (Value.ref 439) [_, _] _) _ _ _); k_dflt (refine' Tell.use2 (by k_asm) (by k_asm) (by k_asm) (by (refine' pull1 (by k_asm) (by k_extra "my pull"))) (by k_asm) (by first | exact rfl | assumption) (by (refine mt1 ?_; k_all)) (by exact Nat.le_of_ble_eq_true rfl) (by exact Nat.le_of_ble_eq_true rfl) (plum_ _ _ _ _ _ _ _ (by assumption) (by assumption) (by omega) (by omega)) ?_; k_whole; intro tkzz rzz vs'zz ns'zz n'zz hi'zz hl'zz h0zz h1zz h'zz tk'zz F'zz N'zz l1zz; (try simp only [List.nil_append, List.cons_append] at N'zz); clear l1zz; (try dsimp only); (try k_sweep))))
  k_with "my @call ref" => ((k_here; (with_reducible show wpAny _ _ (call (Value.ref 265) _ _) _ _ _); k_dflt (refine' Tell.useQ (by k_asm) (by k_asm) (by k_asm) (by k_asm) (by k_asm) (by first | exact rfl | assumption) (by k_extra "my need") (by exact Nat.le_of_ble_eq_true rfl) (by exact Nat.le_of_ble_eq_true rfl) (fmt_int _ _ _ _ _ (by omega) (by omega)) ?_; k_whole; intro tkzz h'zz tk'zz F'zz N'zz l1zz; (try simp only [List.nil_append, List.cons_append] at N'zz); clear l1zz; (try dsimp only); (try k_sweep))))
  k_with "my @call ref" => ((k_here; (with_reducible show wpAny _ _ (call (Value.ref 265) _ _) _ _ _); k_dflt (refine' Tell.useQ (by k_asm) (by k_asm) (by k_asm) (by k_asm) (by k_asm) (by first | exact rfl | assumption) (by k_extra "my need") (by exact Nat.le_of_ble_eq_true rfl) (by exact Nat.le_of_ble_eq_true rfl) (fmt_str _ _ _ _ _ (by first | assumption | decide +kernel) (by first | assumption | decide +kernel) (by first | assumption | decide +kernel)) ?_; k_whole; intro tkzz h'zz tk'zz F'zz N'zz l1zz; (try simp only [List.nil_append, List.cons_append] at N'zz); clear l1zz; (try dsimp only); (try k_sweep))))
  k_with "my @call ref" => ((k_here; (with_reducible show wpAny _ _ (call (Value.ref 231) _ _) _ _ _); k_dflt (refine' Tell.useQ (by k_asm) (by k_asm) (by k_asm) (by k_asm) (by k_asm) (by first | exact rfl | assumption) (by k_extra "my need") (by exact Nat.le_of_ble_eq_true rfl) (by exact Nat.le_of_ble_eq_true rfl) (grown_ _ _ _ _ _ (by omega) (by omega) (by k_extra "my len")) ?_; k_whole; intro tkzz h'zz tk'zz F'zz N'zz l1zz; (try simp only [List.nil_append, List.cons_append] at N'zz); clear l1zz; (try dsimp only); (try k_sweep))))
  k_with "my comp" => ((k_here; k_dflt (refine LCg.ListComp_U (F₀ := by k_asm) (by with_unfolding_all rfl) (by decide) (by rfl) (by decide) (by rfl) ?_)))
  k_with "my o3c" => (((try simp only [List.cons_append, List.nil_append]); refine off3By (by with_reducible assumption) ?_; k_extra "my o3l"))
  k_with "my offs" => (first | exact True.intro | k_extra "my o3c" | (k_whole; refine And.intro ⟨by k_ne, by k_ne, by k_ne⟩ ?_; k_extra "my offs") | assumption)
  k_with "my list" => (exact News.isList (by k_asm) (by k_mem))
  k_with "my slice" => ((k_here; (with_reducible show wpAny _ _ (subscriptTail _ (PySem.Expr.Slice _ _ none _) (Value.ref _) (Value.ref _)) _ _ _); k_dflt (refine' kms_slice_lit (by k_asm) (by k_asm) (by k_extra "my list") (by kmk_part) (by kmk_part) (by first | exact pick_upto (by omega) | exact pick_run (by omega) (by omega) (by omega)) ?_ (by with_unfolding_all rfl) (by kmk_pure) (by (rw [List.size_toArray, sizeLine_eq]; omega)); intro D'zz h'zz F'zz N'zz l1zz; (try k_lt l1zz); (try k_sweep))))
  k_with "my len list" => ((k_here; (with_reducible show wpAny _ _ (call (Value.builtin "len") [Value.ref _]) _ _ _); k_dflt (refine' kst_len (by k_asm) (by k_mem) (by rfl) (by omega) ?_; k_whole)))
  k_with "my mul list" => ((k_here; (with_reducible show wpAny _ _ (binaryOp Operator.Mult (Value.ref _) (Value.int _ _)) _ _ _); k_dflt (refine' KMa.mul (by k_asm) (by k_asm) (by k_extra "my list") (by omega) (by omega) (by (simp only [List.length_cons, List.length_nil]; omega)) (by first | exact flat1 _ _ | rfl) ?_; k_whole; intro D'zz h'zz F'zz N'zz l1zz; (try k_lt l1zz); (try k_sweep))))
  k_with "my add list" => ((k_here; (with_reducible show wpAny _ _ (binaryOp _ (Value.ref _) (Value.ref _)) _ _ _); k_dflt (refine' kmk_add_lit (by k_asm) (by k_asm) (by k_extra "my list") (by k_extra "my list") (by rfl) ?_ (by (rw [sizeLine_eq]; (try simp only [List.toList_toArray, List.length_take, List.length_append, List.length_replicate, List.length_cons, List.length_nil]); omega)); intro D'zz h'zz F'zz N'zz l1zz; (try k_lt l1zz); (try k_sweep))))
  k_with "my @LPost" => ((dsimp only [LPost]))
  k_with "my tailmem" => (first | assumption | exact List.Mem.head _ | (refine List.Mem.tail _ ?_; k_extra "my tailmem") | (refine List.mem_append.mpr (Or.inl ?_); k_extra "my tailmem") | (refine List.mem_append.mpr (Or.inr ?_); k_extra "my tailmem"))
  k_with "my sub" => (first | exact List.forall_mem_nil _ | (refine List.forall_mem_cons.mpr ⟨by k_extra "my tailmem", ?_⟩; k_extra "my sub") | (intro p9zz h9zz; k_extra "my tailmem"))
  k_with "my off" => (first | exact List.forall_mem_nil _ | (refine List.forall_mem_cons.mpr ⟨by first | assumption | omega, ?_⟩; k_extra "my off") | assumption | exact ne_of_all (by assumption))
  k_with "my kept" => (first | exact List.forall_mem_nil _ | (refine List.forall_mem_cons.mpr ⟨by with_unfolding_all rfl, ?_⟩; k_extra "my kept"))
  k_with "my for" => ((k_here; (rename Fr _ _ _ _ => lF'zz); (with_unfolding_all refine' For_invVF lF'zz (by exact rfl) (by exact rfl) ?_; k_whole)))
  k_with "my @eval ListComp" => ((k_extra "my comp"))
  k_with "my @CompSrc" => ((refine to_held ?_))
  k_with "my @CompEnd" => ((refine to_held ?_))
  k_with "my @pyIter ref" => ((k_of "item" => refine to_held ?_))
  k_with "my @call ref" => ((k_here; (with_reducible show wpAny _ _ (call (Value.ref 271) _ _) _ _ _); k_dflt (refine' Tell.useQ (by k_asm) (by k_asm) (by k_asm) (by k_asm) (by k_asm) (by first | exact rfl | assumption) (by k_extra "my need") (by exact Nat.le_of_ble_eq_true rfl) (by exact Nat.le_of_ble_eq_true rfl) (items_str _ _ _ _ _ _ _ _ _ _ _ _ _ _ _ (by assumption) (by assumption) (by first | assumption | omega)) ?_; k_whole; intro bzz uszz huszz h'zz tk'zz F'zz N'zz l1zz; (try simp only [List.nil_append, List.cons_append] at N'zz); (have l2zz := difs_of (below1 l1zz); clear l1zz; (try simp only [List.nil_append, List.cons_append] at l2zz)); (try dsimp only); (try k_sweep))))
  k_with "my @call ref" => ((k_here; (with_reducible show wpAny _ _ (call (Value.ref 271) _ _) _ _ _); k_dflt (refine' Tell.useQ (by k_asm) (by k_asm) (by k_asm) (by k_asm) (by k_asm) (by first | exact rfl | assumption) (by k_extra "my need") (by exact Nat.le_of_ble_eq_true rfl) (by exact Nat.le_of_ble_eq_true rfl) (items_int _ _ _ _ _ _ _ _ _ _ _ _ _ _ _ (by assumption) (by assumption) (by assumption) (by first | assumption | omega)) ?_; k_whole; intro bzz uszz huszz h'zz tk'zz F'zz N'zz l1zz; (try simp only [List.nil_append, List.cons_append] at N'zz); (have l2zz := difs_of (below1 l1zz); clear l1zz; (try simp only [List.nil_append, List.cons_append] at l2zz)); (try dsimp only); (try k_sweep))))
  k_with "my @subscriptTail Name Slice ref ref" => ((k_extra "my slice"))
  k_with "my @call builtin:len" => ((k_extra "my len list"))
  k_with "my @binaryOp Mult ref int" => ((k_extra "my mul list"))
  k_with "my @binaryOp Add ref ref" => ((k_extra "my add list"))
  k_with "my @call ref" => ((k_here; (with_reducible show wpAny _ _ (call (Value.ref 412) _ _) _ _ _); k_dflt (refine' Tell.useQ (by k_asm) (by k_asm) (by k_asm) (by k_asm) (by k_asm) (by first | exact rfl | assumption) (by k_extra "my need") (by exact Nat.le_of_ble_eq_true rfl) (by exact Nat.le_of_ble_eq_true rfl) (filled_int _ _ _ _ _ _ _ _ _ _ _ _ _ _ _ _ (by first | assumption | omega) (by assumption) (by first | assumption | ((try simp only [List.length_map]); omega))) ?_; k_whole; intro bzz us'zz n'zz huszz h'zz tk'zz F'zz N'zz l1zz; (try simp only [List.nil_append, List.cons_append] at N'zz); (have l2zz := difs_of (below1 l1zz); clear l1zz; (try simp only [List.nil_append, List.cons_append] at l2zz)); (try dsimp only); (try k_sweep))))
  k_with "my @call ref" => ((k_here; (with_reducible show wpAny _ _ (call (Value.ref 412) _ _) _ _ _); k_dflt (refine' Tell.useQ (by k_asm) (by k_asm) (by k_asm) (by k_asm) (by k_asm) (by first | exact rfl | assumption) (by k_extra "my need") (by exact Nat.le_of_ble_eq_true rfl) (by exact Nat.le_of_ble_eq_true rfl) (filled_str _ _ _ _ _ _ _ _ _ _ _ _ _ _ _ _ (by first | assumption | omega) (by assumption) (by first | assumption | ((try simp only [List.length_map]); omega))) ?_; k_whole; intro bzz us'zz n'zz huszz h'zz tk'zz F'zz N'zz l1zz; (try simp only [List.nil_append, List.cons_append] at N'zz); (have l2zz := difs_of (below1 l1zz); clear l1zz; (try simp only [List.nil_append, List.cons_append] at l2zz)); (try dsimp only); (try k_sweep))))
  k_with "my item" => ((k_here; (with_reducible show wpAny _ _ (subscriptTail _ _ (Value.ref _) (Value.int _ _)) _ _ _); k_dflt (refine' item_lit (by k_asm) (by k_mem) (by first | decide | omega) (by first | decide | omega) (by first | exact rfl | assumption) ?_ (by with_unfolding_all rfl); k_whole)))
  k_with "my @subscriptTail Name Constant ref int" => ((k_extra "my item"))
  k_with "my @call type:str" => ((k_here; (with_reducible show wpAny _ _ (call (Value.type "str") [Value.int _ _]) _ _ _); refine str_small (by omega) (by omega) ?_))
  k_with "my @GrowPost" => ((dsimp only [GrowPost]))
  k_with "my @getMethod ref" => ((k_here; (with_reducible show wpAny _ _ (getMethod (Value.ref _) (Str.ofString "get") _) _ _ _); k_dflt (refine kdg_method (knd := PySem.strKind _ _) (by k_asm) (by k_mem) (by k_asm) ?_)))
  k_with "my @call builtin:dict.get" => ((k_here; k_dflt (first | refine kdg_get1 (knd := PySem.strKind _ _) (by k_asm) (by k_mem) (by k_asm) (by k_asm) (strKind_is _ _ _ _) (some _) (by rfl) ?_ | refine kdg_get1 (knd := PySem.strKind _ _) (by k_asm) (by k_mem) (by k_asm) (by k_asm) (strKind_is _ _ _ _) none (by rfl) ?_); (try dsimp only [Option.getD])))
  k_with "my @compareOp NotIn str ref" => ((k_here; k_dflt (first | refine kdg_notin (knd := PySem.strKind _ _) (by k_asm) (by k_mem) (by k_asm) (by k_asm) (strKind_is _ _ _ _) true (by rfl) ?_ | refine kdg_notin (knd := PySem.strKind _ _) (by k_asm) (by k_mem) (by k_asm) (by k_asm) (strKind_is _ _ _ _) false (by rfl) ?_); (try dsimp only [Bool.not_true, Bool.not_false])))
  k_with "my @call builtin:list.append" => ((k_here; (with_reducible show wpAny _ _ (call (Value.builtin "list.append") [Value.ref _, _]) _ _ _); k_dflt (refine' append_K (by k_asm) (by k_asm) (by k_upd) ?_ (by (rw [List.size_toArray, sizeLine_eq]; (try simp only [List.length_append, List.length_map, List.length_cons, List.length_nil]); omega)); k_whole; intro h'zz F'zz N'zz; (try simp only [List.toList_toArray] at N'zz); (try k_sweep))))
  k_with "my @subscriptTail Name Name ref int" => ((k_extra "my item"))
  k_with "my @call ref" => ((k_here; (with_reducible show wpAny _ _ (call (Value.ref 356) _ _) _ _ _); k_dflt (refine' Tell.useQ (by k_asm) (by k_asm) (by k_asm) (by k_asm) (by k_asm) (by first | exact rfl | assumption) (by k_extra "my need") (by exact Nat.le_of_ble_eq_true rfl) (by exact Nat.le_of_ble_eq_true rfl) (lroom_ _ _ _ _ _ _ _ _ _ _ _ _ _ _ _ _ _ (by first | assumption | exact hid_of (by assumption)) (by assumption)) ?_; k_whole; intro tkzz h'zz tk'zz F'zz N'zz l1zz; (try simp only [List.nil_append, List.cons_append] at N'zz); clear l1zz; (try dsimp only); (try k_sweep))))
  k_with "my @call ref" => ((k_here; (with_reducible show wpAny _ _ (call (Value.ref 349) _ _) _ _ _); k_dflt (refine' Tell.useQ (by k_asm) (by k_asm) (by k_asm) (by k_asm) (by k_asm) (by first | exact rfl | assumption) (by k_extra "my need") (by exact Nat.le_of_ble_eq_true rfl) (by exact Nat.le_of_ble_eq_true rfl) (roff_ _ _ _ _ _ _ _ _ _ _ _ _ _ _ ) ?_; k_whole; intro tkzz h'zz tk'zz F'zz N'zz l1zz; (try simp only [List.nil_append, List.cons_append] at N'zz); clear l1zz; (try dsimp only); (try k_sweep))))
  k_with "my @call ref" => ((k_here; (with_reducible show wpAny _ _ (call (Value.ref 370) _ _) _ _ _); k_dflt (refine' Tell.useQ (by k_asm) (by k_asm) (by k_asm) (by k_asm) (by k_asm) (by first | exact rfl | assumption) (by k_extra "my need") (by exact Nat.le_of_ble_eq_true rfl) (by exact Nat.le_of_ble_eq_true rfl) (chead_ _ _ _ _ _ _ _ _ _ _ _ _ _ _ _ _ _ _ _ _ (by omega) (by omega) (by assumption)) ?_; k_whole; intro tkzz h'zz tk'zz F'zz N'zz l1zz; (try simp only [List.nil_append, List.cons_append] at N'zz); clear l1zz; (try dsimp only); (try k_sweep))))
  k_with "my @pyIter ref" => ((k_of "place" => refine to_held ?_))
  k_with "my @pyIter ref" => ((k_of "row" => refine to_held ?_))
  k_with "my @call builtin:str.join" => ((k_here; (with_reducible show wpAny _ _ (call (Value.builtin "str.join") [Value.str _ _, Value.ref _]) _ _ _); k_dflt (refine' k_join (by k_asm) (by k_mem) (by (with_unfolding_all assumption)) (by assumption) (by first | assumption | omega) ?_; k_whole; intro _ _)))
  k_with "my @call ref" => ((k_here; (with_reducible show wpAny _ _ (call (Value.ref 363) _ _) _ _ _); k_dflt (refine' Tell.useQ (by k_asm) (by k_asm) (by k_asm) (by k_asm) (by k_asm) (by first | exact rfl | assumption) (by k_extra "my need") (by exact Nat.le_of_ble_eq_true rfl) (by exact Nat.le_of_ble_eq_true rfl) (rlabel_ _ _ _ _ _ _ _ _ _ _ _ _ _ _ _ _ _ _ _ _ _ (by assumption) (by assumption) (by omega) (by omega) (by assumption) (by assumption)) ?_; k_whole; intro tkzz h'zz tk'zz F'zz N'zz l1zz; (try simp only [List.nil_append, List.cons_append] at N'zz); clear l1zz; (try dsimp only); (try k_sweep))))
  k_with "my item2" => ((k_here; (with_reducible show wpAny _ _ (subscriptTail _ _ (Value.ref _) (Value.int _ _)) _ _ _); k_dflt (refine' item_lit (by k_asm) (by k_extra "my tailmem") (by first | decide | omega) (by first | decide | omega) (by first | exact rfl | assumption) ?_ (by with_unfolding_all rfl); k_whole)))
  k_with "my @subscriptTail Name Name ref int" => (first | k_extra "my item" | k_extra "my item2")
  k_with "my @KswPost" => ((dsimp only [KswPost]))
  k_with "my @call ref" => ((k_here; (with_reducible show wpAny _ _ (call (Value.ref 278) _ _) _ _ _); k_dflt (refine' Tell.useQ (by k_asm) (by k_asm) (by k_asm) (by k_asm) (by k_asm) (by first | exact rfl | assumption) (by (refine List.forall_mem_cons.mpr ⟨?_, List.forall_mem_nil _⟩; k_extra "my tailmem")) (by exact Nat.le_of_ble_eq_true rfl) (by exact Nat.le_of_ble_eq_true rfl) (widest_any _ _ _ _ _ (by assumption) (by assumption) (by assumption)) ?_; k_whole; intro tkzz h'zz tk'zz F'zz N'zz l1zz; (try simp only [List.nil_append, List.cons_append] at N'zz); clear l1zz; (try dsimp only); (try k_sweep))))
  k_with "my needg" => (first | exact List.forall_mem_nil _ | (refine' List.forall_mem_cons.mpr ⟨(by k_extra "my tailmem"), (by k_extra "my needg")⟩) | (intro p9zz h9zz; k_extra "my tailmem"))
  k_with "my @call ref" => ((k_here; (with_reducible show wpAny _ _ (call (Value.ref 384) _ _) _ _ _); k_dflt (refine' Tell.useR (by k_asm) (by k_asm) (by k_asm) (by k_asm) (by k_asm) (by first | exact rfl | assumption) (rows_ _ _ _ _ _ _ _ _ _ _ _ _ _ _ _ _ _ _ _ _ _ _ _ _ _ _ _ _ _ _ _ ?_ ?_ (by assumption) ?_ ?_ ?_ ?_ ?_ ?_ ?_ ?_ ?_) (by (simp only [List.cons_append, List.nil_append]; k_extra "my needg")) (by exact Nat.le_of_ble_eq_true rfl) (by exact Nat.le_of_ble_eq_true rfl) ?_; (try any_goals (refine id_prop ?_; first | assumption)); (try any_goals (refine id_prop ?_; first | assumption)); k_whole; intro bzz lineszz kkzz hlineszz hll1zz hll2zz h'zz tk'zz F'zz N'zz l1zz; (try simp only [List.nil_append, List.cons_append] at N'zz); (have l2zz := difs_of (below1 l1zz); clear l1zz; (try simp only [List.nil_append, List.cons_append] at l2zz)); (try dsimp only); (try k_sweep))))
  k_with "my @call builtin:list.extend" => ((k_here; (with_reducible show wpAny _ _ (call (Value.builtin _) [Value.ref _, Value.ref _]) _ _ _); k_dflt (refine' extend_ (by k_asm) (by k_asm) (by k_mem) (by first | assumption | omega) (by k_upd) (by first | omega | (simp only [List.length_nil]; omega)) (by omega) ?_); intro h'zz F'zz N'zz; (try simp only [List.nil_append] at N'zz); (try k_sweep)))
  k_with "my @call builtin:len" => ((k_here; (with_reducible show wpAny _ _ (call (Value.builtin "len") [Value.ref _]) _ _ _); k_dflt (refine' kst_len (by k_asm) (by k_mem) (by rfl) (by (have hqzz := hc_up (by assumption); omega)) ?_; k_whole)))
  k_with "my @pyIter ref" => ((k_of "place" => refine to_held ?_))
  k_with "my @WhlIf" => (first | (refine WhlIf.yes (decide_eq_true (by omega)) ?_) | (refine WhlIf.no (decide_eq_false (by omega)) ?_))
  k_with "my @exec While Compare" => ((refine to_held ?_))
  k_with "my @exec While BoolOp" => ((refine to_held ?_))
  k_with "my @exec While" => ((refine to_held ?_))
  k_with "my @KswEnd" => ((refine to_held ?_))
  k_with "my @getMethod ref" => ((k_here; (with_reducible show wpAny _ _ (getMethod (Value.ref _) (Str.ofString "get") _) _ _ _); k_dflt (refine kdg_method (knd := PySem.strKind _ _) (by k_asm) (by k_mem) (by k_asm) ?_)))
  k_with "my @call builtin:dict.get" => ((k_here; k_dflt (first | refine kdg_get1 (knd := PySem.strKind _ _) (by k_asm) (by k_mem) (by k_asm) (by k_asm) (strKind_is _ _ _ _) (some _) (by rfl) ?_ | refine kdg_get1 (knd := PySem.strKind _ _) (by k_asm) (by k_mem) (by k_asm) (by k_asm) (strKind_is _ _ _ _) none (by rfl) ?_); (try dsimp only [Option.getD])))
  k_with "my tailm" => (first | assumption | exact List.Mem.head _ | (refine List.Mem.tail _ ?_; k_extra "my tailm"))
  k_with "my o3b" => (((try simp only [List.cons_append, List.nil_append]); refine off3By (by with_reducible assumption) ?_; k_extra "my o3l"))
  k_with "my cend" => ((k_dflt (refine' cend (by k_asm) (by k_asm) (by k_extra "my pull") (by k_extra "my pull") (by k_extra "my pull") (by first | assumption | (k_whole; first | k_extra "my o3b" | (refine And.intro ⟨by k_ne, by k_ne, by k_ne⟩ ?_; k_extra "my o3b") | (refine And.intro ⟨by k_ne, by k_ne, by k_ne⟩ ?_; assumption) | (refine And.intro ⟨by k_ne, by k_ne, by k_ne⟩ ?_; refine And.intro ⟨by k_ne, by k_ne, by k_ne⟩ ?_; assumption))) (by first | exact True.intro | exact Or.inl (Or.inl (by assumption)) | exact Or.inl (by assumption) | exact Or.inr ⟨_, by k_mem, rfl, _, rfl⟩) ?_)))
  k_with "my @CompEnd" => ((k_extra "my cend"))
  k_with "my @call ref" => ((k_here; (with_reducible show wpAny _ _ (call (Value.ref 45) _ _) _ _ _); k_dflt (refine' Tell.useR (by k_asm) (by k_asm) (by k_asm) (by k_asm) (by k_asm) (by first | exact rfl | assumption) (dimn_ _ _ _ _ _ _ _ _ _ _ _ _ _ _ _ _ _ _ _ _ _ _ _ _ _ _ _ _ _ _ _ _ _ _ _ _ _ _ _ _ _ _ _ _ _ ?_ ?_ ?_ (by assumption)) (by k_extra "my need") (by exact Nat.le_of_ble_eq_true rfl) (by exact Nat.le_of_ble_eq_true rfl) ?_; (try any_goals (refine id_prop ?_; first | first | assumption | omega)); (try any_goals (refine id_prop ?_; first | first | assumption | omega)); k_whole; intro bzz c1zz c2zz k1zz k2zz h'zz tk'zz F'zz N'zz l1zz; (try simp only [List.nil_append, List.cons_append] at N'zz); (have l2zz := difs_of (below2 l1zz).1; have l3zz := difs_of (below2 l1zz).2; have l4zz := difs_of (below3 l1zz); clear l1zz; (try simp only [List.nil_append, List.cons_append] at l2zz l3zz l4zz)); (try dsimp only); (try k_sweep))))
  k_with "my @subscriptTail Name Name ref int" => ((k_extra "my item"))
  k_with "my @CompEnd" => ((refine to_held ?_))
  k_with "my @pyIter ref" => ((k_of "place" => refine to_held ?_))
  k_with "my @eval IfExp" => (((fail_if_success (rename Free => hfreezz)); (with_reducible show wpAny _ _ (eval (PySem.Expr.IfExp (PySem.Expr.Compare _ _ _ _) _ _ _) _) _ _ _); refine to_held ?_))
  k_with "my @eval IfExp" => (((fail_if_success (rename Free => hfreezz)); (with_reducible show wpAny _ _ (eval (PySem.Expr.IfExp (PySem.Expr.BoolOp _ _ _) _ _ _) _) _ _ _); refine to_held ?_))
  k_with "my @FinE" => (((unfold LCg.FinE); intro D'zz h'zz tk'zz F'zz N'zz o1'zz; (have l2zz := difs_of o1'zz; clear o1'zz; (try simp only [List.nil_append, List.cons_append] at l2zz)); (try simp only [List.nil_append, List.cons_append] at N'zz); (try dsimp only)))
  k_with "my @FinA" => (((unfold LCg.FinA); intro D'zz h'zz tk'zz F'zz N'zz o1'zz; (have l2zz := difs_of o1'zz; clear o1'zz; (try simp only [List.nil_append, List.cons_append] at l2zz)); (try simp only [List.nil_append, List.cons_append] at N'zz); (try dsimp only)))
  k_with "my slice2" => ((k_here; (with_reducible show wpAny _ _ (subscriptTail _ (PySem.Expr.Slice _ _ none _) (Value.ref _) (Value.ref _)) _ _ _); k_dflt (refine' kms_slice_lit (by k_asm) (by k_asm) (by k_extra "my list") (by kmk_part) (by kmk_part) (by first | exact pick_upto (by omega) | exact pick_run (by omega) (by omega) (by omega)) ?_ (by with_unfolding_all rfl) (by kmk_pure) (by (rw [List.size_toArray, sizeLine_eq]; (try simp only [List.toList_toArray, List.length_take, List.length_append, List.length_map, List.length_replicate, List.length_cons, List.length_nil]); omega)); intro D'zz h'zz F'zz N'zz l1zz; (try k_lt l1zz); (try k_sweep))))
  k_with "my @subscriptTail Name Slice ref ref" => ((k_extra "my slice2"))
  k_with "my difs" => (((rename Difs _ _ => q9zz); (simp only [List.nil_append, List.cons_append] at q9zz); (repeat (obtain ⟨_, q9zz⟩ := q9zz))))
  k_with "my subg" => (first | exact List.forall_mem_nil _ | (refine List.forall_mem_cons.mpr ⟨by k_extra "my tailmem", ?_⟩; k_extra "my subg") | (refine List.forall_mem_append.mpr ⟨?_, ?_⟩ <;> k_extra "my subg") | (intro p9zz h9zz; k_extra "my tailmem"))
  k_with "my fold" => k_fold
  trivial
theorem off_PJ : True := by
  w_top off
  trivial
-- part PJ
theorem ln_PJ1 : True := by
  k_with "my @exec Assign cons ListComp" => ((k_here; with_reducible refine plainObj_wpAny_Assign_Attribute ?_ ?_; rotate_left; with_unfolding_all rfl))
  k_with "my @call ref" => ((k_here; (with_reducible show wpAny _ _ (call (Value.ref 333) _ _) _ _ _); k_dflt (refine' Tell.useQ (by k_asm) (by k_asm) (by k_asm) (by k_asm) (by k_asm) (by first | exact rfl | assumption) (by k_extra "my need") (by exact Nat.le_of_ble_eq_true rfl) (by exact Nat.le_of_ble_eq_true rfl) (layout_ _ _ _) ?_; k_whole; intro xzz dxzz t1zz t2zz t3zz t4zz t5zz t6zz t7zz hxzz h'zz tk'zz F'zz N'zz l1zz; (try simp only [List.nil_append, List.cons_append] at N'zz); (have l2zz := difs_of (below2 l1zz).1; have l3zz := difs_of (below2 l1zz).2; clear l1zz; (try simp only [List.nil_append, List.cons_append] at l2zz l3zz); skip); (try dsimp only); (try k_sweep))))
  k_with "my @call ref" => ((k_here; (with_reducible show wpAny _ _ (call (Value.ref 342) _ _) _ _ _); k_dflt (refine' Tell.useQ (by k_asm) (by k_asm) (by k_asm) (by k_asm) (by k_asm) (by first | exact rfl | assumption) (by k_extra "my need") (by exact Nat.le_of_ble_eq_true rfl) (by exact Nat.le_of_ble_eq_true rfl) (shown0 _) ?_; k_whole; intro  h'zz tk'zz F'zz N'zz l1zz; (try simp only [List.nil_append, List.cons_append] at N'zz); clear l1zz; (try dsimp only); (try k_sweep))))
  k_with "my @call ref" => ((k_here; (with_reducible show wpAny _ _ (call (Value.ref 342) _ _) _ _ _); k_dflt (refine' Tell.useQ (by k_asm) (by k_asm) (by k_asm) (by k_asm) (by k_asm) (by first | exact rfl | assumption) (by k_extra "my need") (by exact Nat.le_of_ble_eq_true rfl) (by exact Nat.le_of_ble_eq_true rfl) (shown1 _ _ _ _ _ (by assumption) (by assumption) (by first | assumption | omega)) ?_; k_whole; intro bzz uszz kzz huszz h'zz tk'zz F'zz N'zz l1zz; (try simp only [List.nil_append, List.cons_append] at N'zz); (have l2zz := difs_of (below1 l1zz); clear l1zz; (try simp only [List.nil_append, List.cons_append] at l2zz)); (try dsimp only); (try k_sweep))))
  k_with "my @call ref" => ((k_here; (with_reducible show wpAny _ _ (call (Value.ref 33) _ _) _ _ _); k_dflt (refine' Tell.useQ (by k_asm) (by k_asm) (by k_asm) (by k_asm) (by k_asm) (by first | exact rfl | assumption) (by k_extra "my need") (by exact Nat.le_of_ble_eq_true rfl) (by exact Nat.le_of_ble_eq_true rfl) (names0 _ _ _ _ _ _ _ _ _ _ _ _ _ _ (by assumption) (by assumption)) ?_; k_whole; intro  h'zz tk'zz F'zz N'zz l1zz; (try simp only [List.nil_append, List.cons_append] at N'zz); clear l1zz; (try dsimp only); (try k_sweep))))
  k_with "my @call ref" => ((k_here; (with_reducible show wpAny _ _ (call (Value.ref 33) _ _) _ _ _); k_dflt (refine' Tell.useR (by k_asm) (by k_asm) (by k_asm) (by k_asm) (by k_asm) (by first | exact rfl | assumption) (names1 _ _ _ _ _ _ _ _ _ _ _ _ _ _ _ _ _ _ _ _ _ _ _ _ _ ?_ ?_ (by assumption)) (by k_extra "my need") (by exact Nat.le_of_ble_eq_true rfl) (by exact Nat.le_of_ble_eq_true rfl) ?_; (try any_goals (refine id_prop ?_; first | first | assumption | omega)); (try any_goals (refine id_prop ?_; first | first | assumption | omega)); k_whole; intro bzz kzz h'zz tk'zz F'zz N'zz l1zz; (try simp only [List.nil_append, List.cons_append] at N'zz); (have l2zz := difs_of (below1 l1zz); clear l1zz; (try simp only [List.nil_append, List.cons_append] at l2zz)); (try dsimp only); (try k_sweep))))
  k_with "my @call ref" => ((k_here; (with_reducible show wpAny _ _ (call (Value.ref 419) _ _) _ _ _); k_dflt (refine' Tell.useR (by k_asm) (by k_asm) (by k_asm) (by k_asm) (by k_asm) (by first | exact rfl | assumption) (flabels_ _ _ _ _ _ _ _ _ _ _ _ _ _ _ _ _ _ _ _ _ _ _ _ _ _ _ ?_ ?_ ?_ (by assumption)) (by k_extra "my need") (by exact Nat.le_of_ble_eq_true rfl) (by exact Nat.le_of_ble_eq_true rfl) ?_; (try any_goals (refine id_prop ?_; first | first | assumption | omega)); (try any_goals (refine id_prop ?_; first | first | assumption | omega)); k_whole; intro bzz uszz kzz huszz hulzz h'zz tk'zz F'zz N'zz l1zz; (try simp only [List.nil_append, List.cons_append] at N'zz); (have l2zz := difs_of (below1 l1zz); clear l1zz; (try simp only [List.nil_append, List.cons_append] at l2zz)); (try dsimp only); (try k_sweep))))
  k_with "my @call ref" => ((k_here; (with_reducible show wpAny _ _ (call (Value.ref 391) _ _) _ _ _); k_dflt (refine' Tell.useR (by k_asm) (by k_asm) (by k_asm) (by k_asm) (by k_asm) (by first | exact rfl | assumption) (lrows_ _ _ _ _ _ _ _ _ _ _ _ _ _ _ _ _ _ _ _ _ _ _ _ _ _ _ ?_ ?_ (by assumption) ?_ ?_ ?_ ?_ ?_ ?_) (by (simp only [List.cons_append, List.nil_append]; k_extra "my needg")) (by exact Nat.le_of_ble_eq_true rfl) (by exact Nat.le_of_ble_eq_true rfl) ?_; (try any_goals (refine id_prop ?_; first | assumption)); (try any_goals (refine id_prop ?_; first | assumption)); k_whole; intro bzz lineszz kzz hlineszz h'zz tk'zz F'zz N'zz l1zz; (try simp only [List.nil_append, List.cons_append] at N'zz); (have l2zz := difs_of (below1 l1zz); clear l1zz; (try simp only [List.nil_append, List.cons_append] at l2zz)); (try dsimp only); (try k_sweep))))
  k_with "my @pyIter ref" => ((k_of "place" => refine to_held ?_))
  k_with "my @call ref" => ((k_here; (with_reducible show wpAny _ _ (call (Value.ref 405) _ _) _ _ _); refine to_held ?_))
  k_with "my @ite" => ((k_here; first | (refine ite_neg (by (simp only [beq_iff_eq]; (try (have hqzz := hc_both (by assumption))); omega)) ?_) | (refine ite_pos (by (simp only [beq_iff_eq]; omega)) ?_)))
  k_with "my @eval ListComp" => ((k_here; k_dflt (refine LCp.ListComp_P (F₀ := by k_asm) (by with_unfolding_all rfl) (by decide) (by rfl) (by decide) (by rfl) (by rfl) (by decide) ?_)))
  k_with "my @SrcLP" => ((refine to_held ?_))
  k_with "my @CompEnd" => ((refine to_held ?_))
  trivial

theorem ln_PJ2 : True := by
  k_with "my @eval Call" => (((fail_if_success (rename Free => hfreezz)); (with_reducible show wpAny _ _ (eval (PySem.Expr.Call (PySem.Expr.Name (PySem.Str.ofString "shown_names") _) _ _ _) _) _ _ _); refine to_held ?_))
  k_with "my @exec If" => (((fail_if_success (rename Free => hfreezz)); (with_reducible show wpAny _ _ (exec (PySem.Stmt.If (PySem.Expr.Compare (PySem.Expr.Name (PySem.Str.ofString "names") _) _ _ _) _ _ _) _) _ _ _); refine to_held ?_))
  trivial
/-- the names of a frame, or none -/
def NamesPart (w : World) (nms : List Str) (rest : List (Str × Value)) (ex : Led) : Prop :=
  (rest = [] ∧ ex = [] ∧ ∀ p ∈ nms, p = Str.ofString "NA") ∨
  (∃ (nv nd nl : Addr) (s1 s2 s3 s4 s5 s6 : Tok) (nvs : List Value) (n3 : Nat), rest = [(Str.ofString "names", Value.ref nv)] ∧
    ex = [(nv, instObj 199 nd), (nd, vecD w.params s1 s2 s3 s4 s5 (.str (Str.ofString "character") s6) (.ref nl) .none), (nl, lst nvs n3)] ∧ StrsAre nvs nms ∧ ∀ p ∈ nms, Clean p)
/-- what the name names then holds -/
def NamesAt (nms : List Str) (gr : Led) (v : Value) : Prop :=
  (v = .none ∧ ∀ p ∈ nms, p = Str.ofString "NA") ∨ (∃ (b : Addr) (us : List Value) (k : Nat), v = .ref b ∧ gr = [(b, lst us k)] ∧ StrsAre us nms)
theorem all_right {D : Addr} : ∀ {l l' : Led}, AllLt D (l ++ l') → AllLt D l'
  | [], _, h => h
  | _ :: _, _, h => all_right h.2
theorem na_first {D : Addr} {h₀ h : Heap} {L : Addr} {n k : Nat} {tk : Tok} {rest : Led} {nms : List Str} (hn : nms.length = n) (hna : ∀ p ∈ nms, p = Str.ofString "NA") (N : News h₀ L h ((D, W.listOf (List.replicate ((n : Int)).toNat (Value.str (Str.ofString "NA") tk)).toArray k) :: rest)) :
    ∃ hv, StrsAre hv nms ∧ News h₀ L h ((D, lst hv k) :: rest) := by
  have e : nms = List.replicate n (Str.ofString "NA") := List.eq_replicate_iff.mpr ⟨hn, hna⟩
  refine ⟨_, ?_, N⟩
  rw [e]
  exact strs_rep _ _ _
theorem join_names {prog : Program} {w : World} {A : Around} {tr : Sem Value} {Q E : Value → Shared → Prop} {s : Shared} {h₀ : Heap} {L : Addr} {m : Str → Option Value} {lb c1 x dx cl : Addr} {ol oc ox odx ocl : Obj} {e3 e5 e6 e7 : Addr × Obj} {tl : Led} (nms : List Str) (gn : Led)
    (_ : Fr h₀ L s.heap m) (_ : News h₀ L s.heap ((lb, ol) :: (c1, oc) :: (x, ox) :: (dx, odx) :: e3 :: (cl, ocl) :: e5 :: e6 :: e7 :: tl))
    (h1 : ∀ Q' : Value → Shared → Prop, (∀ h' tk' v gr, NamesAt nms gr v → LCg.Off1 c1 (gr ++ gn) → Fr h₀ L h' m → News h₀ L h' ((lb, ol) :: (c1, oc) :: (x, ox) :: (dx, odx) :: (cl, ocl) :: (gr ++ gn)) → Q' v { s with heap := h', toks := tk' }) → wpAny (model prog w) A tr Q' E s)
    (h2 : ∀ h' tk' v gr, NamesAt nms gr v → LCg.Off1 c1 (gr ++ gn) → Fr h₀ L h' m → News h₀ L h' ((lb, ol) :: (c1, oc) :: (x, ox) :: (dx, odx) :: (cl, ocl) :: (gr ++ gn)) → Q v { s with heap := h', toks := tk' }) : wpAny (model prog w) A tr Q E s := h1 Q h2
theorem join_none {prog : Program} {w : World} {A : Around} {tr : Sem Flow} {Q : Flow → Shared → Prop} {E : Value → Shared → Prop} {s : Shared} {h₀ : Heap} {L : Addr} {m : Str → Option Value} {lb c1 x dx cl : Addr} {ol oc ox odx ocl : Obj} {gr : Led} (nms : List Str) (gn : Led)
    (_ : Fr h₀ L s.heap m) (_ : News h₀ L s.heap ((lb, ol) :: (c1, oc) :: (x, ox) :: (dx, odx) :: (cl, ocl) :: (gr ++ gn)))
    (h1 : ∀ Q' : Flow → Shared → Prop, (∀ h' tk' nb us k oc', StrsAre us nms → oc'.data = Data.cell (some (.ref nb)) → Fr h₀ L h' m → News h₀ L h' ((nb, lst us k) :: (lb, ol) :: (c1, oc') :: (x, ox) :: (dx, odx) :: (cl, ocl) :: gn) → Q' .next { s with heap := h', toks := tk' }) → wpAny (model prog w) A tr Q' E s)
    (h2 : ∀ h' tk' nb us k oc', StrsAre us nms → oc'.data = Data.cell (some (.ref nb)) → Fr h₀ L h' m → News h₀ L h' ((nb, lst us k) :: (lb, ol) :: (c1, oc') :: (x, ox) :: (dx, odx) :: (cl, ocl) :: gn) → Q .next { s with heap := h', toks := tk' }) : wpAny (model prog w) A tr Q E s := h1 Q h2
theorem pfj (w : World) (x dx dd cl rv rvd rl : Addr) (od : Obj) (xvs rvs : List Value) (nms : List Str) (pcss : List (List (Str × List Str))) (g ex : Led) (rest : List (Str × Value)) (r : Nat) (n1 n2 : Nat) (t t1 t2 t3 t4 t5 r1 r2 r3 r4 r5 r6 : Tok) (v1 : Value) (hN : NamesPart w nms rest ex)
  (hr : HidP (r = 1 ∨ r = 2)) (hcols : Cols w (r : Int) g xvs nms pcss) (hc : HC xvs.length) (hc3 : HidP (xvs.length ≤ 3)) (hi : IntsAre rvs (rowNums r)) (hlo : (dd == sysModules) = false)
  (hd : Obj.IsDictOf (PySem.strKind PySem.Challenge.rw_qd0173_01.row.prog w) od ((Str.ofString "class", v1) :: (Str.ofString "row.names", Value.ref rv) :: rest)) :
  Tell 500 500 w 425 [.ref x] [] ([(x, instObj 199 dx), (dx, vecD w.params t1 t2 t3 t4 t5 (.str (Str.ofString "list") t) (.ref cl) (.ref dd)), (dd, od), (cl, lst xvs n1), (rv, instObj 199 rvd), (rvd, vecD w.params r1 r2 r3 r4 r5 (.str (Str.ofString "integer") r6) (.ref rl) .none), (rl, lst rvs n2)] ++ (ex ++ g)) []
    (fun R => ∀ b lines k, StrsAre lines (framed r pcss.flatten) → R (.ref b) [] [(b, lst lines k)]) := by
  unfold Tell
  intro p loose mean mg mb gd cnm cs ca ccd cls outer A₀ base h₀ L m news s Q E B F X N T hk hsep hret
  simp only [List.cons_append, List.nil_append, List.append_assoc] at N
  walk_at "tell enterC"
  rename x < _ ∧ _ => l1c
  have hAL := l1c.2.2.2.2.2.2.2
  have hAL2 : AllLt _ (g ++ news) := all_right (l := ex) hAL
  have hr12 : 1 ≤ r ∧ r ≤ 2 := by
    have : r = 1 ∨ r = 2 := hr
    omega
  have hr1 := hr12.1
  have hr2 := hr12.2
  clear hr12
  have hnl := hcols.len.1
  have hnml : nms.length ≤ 10 := by have := hc.2; omega
  try k_fold
  k_steps
  refine of_held ?_
  rename Fr _ _ _ _ => lF
  rename News _ _ _ _ => lN
  refine join_names nms (g ++ news) lF lN ?j1 ?j2
  case j1 =>
    intro Q' hQ'
    have hfree : Free := trivial
    rcases hN with ⟨rfl, rfl, hh⟩ | ⟨nv, nd, nl, s1, s2, s3, s4, s5, s6, nvs, n3, rfl, rfl, hnv, hncl⟩
    · simp only [List.nil_append] at *
      k_steps
      exact hQ' _ _ _ [] (.inl ⟨rfl, hh⟩) (by simp only [List.nil_append]; k_extra "my off1") (by assumption) (drop_to (by assumption) (by (try simp only [List.nil_append]); k_extra "my subg"))
    · simp only [List.cons_append, List.nil_append] at *
      have hnvl : nvs.length ≤ 10 := by rw [hnv.length]; exact hnml
      k_steps
      exact hQ' _ _ _ [(_, lst _ _)] (.inr ⟨_, _, _, rfl, rfl, by assumption⟩) (by simp only [List.cons_append, List.nil_append]; k_extra "my off1") (by assumption) (drop_to (by assumption) (by (try simp only [List.cons_append, List.nil_append]); k_extra "my subg"))
  case j2 =>
  intro h3 tk3 vN gr hV hog F3 N3
  clear lF lN
  k_steps
  refine of_held ?_
  rename Fr _ _ _ _ => lF
  rename News _ _ _ _ => lN
  refine' join_none (gr := gr) nms (g ++ news) ?iF ?iN ?i1 ?i2
  case iF => exact lF
  case iN => exact lN
  case i1 =>
    intro Q' hQ'
    have hfree : Free := trivial
    rcases hV with ⟨rfl, hh⟩ | ⟨b, us, k, rfl, rfl, hst⟩
    · k_steps
      rename News _ _ _ _ => lN9
      have ob := na_first (by omega) hh lN9
      obtain ⟨nv9, hhv, lN8⟩ := ob
      exact hQ' _ _ _ _ _ _ hhv (by assumption) (by assumption) (drop_to lN8 (by (try simp only [List.cons_append, List.nil_append]); k_extra "my subg"))
    · simp only [List.cons_append, List.nil_append] at *
      k_steps
      exact hQ' _ _ _ _ _ _ hst (by assumption) (by assumption) (drop_to (by assumption) (by (try simp only [List.cons_append, List.nil_append]); k_extra "my subg"))
  case i2 =>
  intro h4 tk4 nb nus nk oc9 hhv hoc F4 N4
  clear lF lN
  k_steps
  refine of_held ?_
  rename IsRange _ _ _ _ _ _ _ _ => lR
  rename News _ _ _ _ => lN
  rename Fr _ _ _ _ => lF
  rename StrsAre _ (rowLabs _) => hu
  rename _ = r => hul
  subst hul
  have hrI : HidP (((List.length _ : Nat) : Int) = 1 ∨ ((List.length _ : Nat) : Int) = 2) := (by have : _ = 1 ∨ _ = 2 := hr; rcases this with h | h <;> rw [h]; exact .inl rfl; exact .inr rfl)
  have hlen := hcols.len
  have hfine := hcols.fine
  refine' growR xvs.length [_, _, _, _, _, _] (g ++ news) [] (fun i pvs g' => PiecesIn g' pvs (pcss.take i).flatten) rfl lR (hc_small hc).1 (hc_small hc).2 lF lN ?gA .nil ?gB ?gC
  case gA => k_extra "my off1"
  case gB =>
    intro i ti pvs k g' uu h tk I oi hin hoI hP hfo hIg hg F1 N1
    try k_fold
    clear lF lN
    simp only [List.cons_append, List.nil_append] at N1
    try simp only [List.cons_append, List.nil_append] at hoI
    skip
    have hca := hcols.at hin
    obtain ⟨a, nm, need, pcs, hx1, hx2, hx3, hS, hF, hneed⟩ := hca
    have hhn := strs_get hhv (show i < nms.length by omega)
    obtain ⟨y, ty, hy1, hy2⟩ := hhn
    rw [hx2] at hy2
    cases hy2
    have hx4 := get_shift hx1
    have hy3 := get_shift hy1
    have hi6 : i < 6 := Nat.lt_of_lt_of_le hin hc.2
    have hc3' : xvs.length ≤ 3 := hc3
    have hpl : pvs.length ≤ 6 := by
      have h1 : (pcss.take i).flatten.length ≤ pcss.flatten.length := by
        have := congrArg List.length (congrArg List.flatten (List.take_append_drop i pcss))
        simp only [List.flatten_append, List.length_append] at this
        omega
      have h2 := hfine.2.1
      rw [hP.length]
      omega
    clear hc3'
    try k_fold
    k_steps
    refine of_held ?_
    refine' Tell.useP (hS _ _ _) ?k1 ?k2 ?k3 ?k4 ?k5 ?k6 ?k7 ?k8 ?k9 ?_
    case k1 => k_dflt k_asm
    case k2 => k_dflt k_asm
    case k3 => k_dflt k_asm
    case k4 => k_dflt k_asm
    case k5 => k_dflt k_asm
    case k6 => first | exact rfl | assumption
    case k7 =>
      intro p9 h9
      try k_fold
      have h8 := hneed p9 h9
      k_extra "my tailmem"
    case k8 => exact Nat.le_of_ble_eq_true rfl
    case k9 => exact Nat.le_of_ble_eq_true rfl
    intro b2 pv2 n9 g2 hP2 hb2 h' tk' F' N' l1
    try k_fold
    simp only [List.nil_append, List.cons_append] at N'
    have N2 := rot_news (g2 := g2) (l := g' ++ (g ++ news)) [_, _, _, _, _, _, _, _] N'
    clear N'
    simp only [List.nil_append, List.cons_append] at N2
    have lb := difs_of (l1 (b2, _) (.head _))
    try simp only [List.nil_append, List.cons_append] at lb
    skip
    have hfo2 : LCg.Off1 _ (g2 ++ (g' ++ (g ++ news))) := off_app (off_flip (o := lst pvs k) (fun q hq => l1 q (.tail _ hq)) (by simp only [List.nil_append, List.cons_append]; k_extra "my tailmem")) hfo
    have hI2 : LCg.Off1 I (g2 ++ g') := off_app (off_flip (o := oi) (fun q hq => l1 q (.tail _ hq)) (by simp only [List.nil_append, List.cons_append]; k_extra "my tailmem")) (off_left hIg)
    have ho3 : ∀ q ∈ g2 ++ g', LCg.Off1 q.1 (g ++ news) := by
      intro q hq
      try k_fold
      rcases List.mem_append.mp hq with hq | hq
      · exact off_drop (l1 q (.tail _ hq)) (by simp only [List.nil_append, List.cons_append]; k_extra "my subg")
      · exact hg q hq
    clear l1
    have hp2 : pv2.length = pcs.length := hP2.length
    have hp3 : 1 ≤ pv2.length := by rw [hp2]; exact hF.1
    have hp4 : pv2.length ≤ 2 := by rw [hp2]; exact hF.2.1
    try k_fold
    k_steps
    refine' grow_any (pvs ++ pv2) (g2 ++ g') ?FF ?NN ?SS hI2 ?o2 ho3 ?hm ?hP
    case FF => assumption
    case NN => assumption
    case SS => simp only [List.cons_append, List.nil_append, List.append_assoc]; k_extra "my subg"
    case o2 => exact off_left (l' := g ++ news) (by rw [List.append_assoc]; exact hfo2)
    case hm => intro z hz1 hz2; simp [kstB, hz1]
    case hP =>
      rw [flat_step hx3]
      exact (hP.mono fun p hp => List.mem_append.mpr (.inr hp)).append (hP2.mono fun p hp => List.mem_append.mpr (.inl hp))
  case gC =>
    intro pvs k g' uu h tk hP hfo hg F1 N1
    try k_fold
    clear lF lN
    simp only [List.cons_append, List.nil_append] at N1
    rw [List.take_of_length_le (by omega)] at hP
    have hpv := hP.length
    have hc3' : xvs.length ≤ 3 := hc3
    have hcl := hc.1
    have hHC : HC pcss.flatten.length := ⟨by omega, by omega⟩
    have hpl : pvs.length ≤ 6 := by rw [hpv]; exact hHC.2
    clear hc3' hcl hc hc3
    try k_fold
    k_steps
    refine of_held ?_
    rename News _ _ _ _ => lN
    rename Fr _ _ _ _ => lF
    refine LCp.SrcLP.ledger (by rfl) lF lN (by k_dflt k_mem) (by rw [List.size_toArray, sizeLine_eq]; omega) ?_
    intro g9
    try k_fold
    refine comp_pieces (g := g') (fun pc y => ∃ l us k, y = .ref l ∧ (l, lst us k) ∈ g' ∧ StrsAre us pc.2) hP (fun p9 h9 => by k_extra "my tailmem") rfl ?_ ?_
    · intro i pc t l us k ys I oI C oC D m₂ h tk E' hpc hm hst hC hx hx2 F2 N2 off ne
      try k_fold
      clear lF lN
      try k_fold
      k_steps
      refine of_held ?_
      exact LCg.CompEnd.intro (by assumption) (by assumption) _ (by k_extra "my sub") off (Or.inr ⟨_, by k_dflt k_mem, rfl, _, rfl⟩) ⟨rfl, l, us, k, rfl, hm, hst⟩
    · intro cvs hcvl hcvs
      try k_fold
      have hcin := cols_of_pieces hcvl hcvs
      clear lF lN
      try k_fold
      k_steps
      refine of_held ?_
      rename News _ _ _ _ => lN
      rename Fr _ _ _ _ => lF
      refine LCp.SrcLP.ledger (by rfl) lF lN (by k_dflt k_mem) (by rw [List.size_toArray, sizeLine_eq]; omega) ?_
      intro g9
      try k_fold
      refine comp_pieces (g := g') (fun pc y => ∃ t, y = .str pc.1 t) hP (fun p9 h9 => by k_extra "my tailmem") rfl ?_ ?_
      · intro i pc t l us k ys I oI C oC D m₂ h tk E' hpc hm hst hC hx hx2 F2 N2 off ne
        try k_fold
        clear lF lN
        try k_fold
        k_steps
        refine of_held ?_
        exact LCg.CompEnd.intro (by assumption) (by assumption) _ (by k_extra "my sub") off (Or.inr ⟨_, by k_dflt k_mem, rfl, _, rfl⟩) ⟨rfl, t, rfl⟩
      · intro hvs hhvl hhvs
        try k_fold
        have hheads := names_of_pieces hhvl hhvs
        have hl1 : (pcss.flatten.map (·.2)).length = pcss.flatten.length := List.length_map _
        have hl2 : (pcss.flatten.map (·.1)).length = pcss.flatten.length := List.length_map _
        have hb1 : ∀ z ∈ pcss.flatten.map (·.1), z.length ≤ 10 := by
          intro z hz
          try k_fold
          obtain ⟨pc, hp, rfl⟩ := List.mem_map.mp hz
          exact (hfine.2.2 pc hp).1
        have hb3 := fun xs (hx : xs ∈ pcss.flatten.map (·.2)) => cols_bd hfine.2.2 hx
        clear lF lN
        try k_fold
        k_steps
        rename StrsAre _ (lineOf _ _ _ :: _) => hlines
        refine' hret _ _ _ hlines _ _ ?FF (drop_to ?NN ?SS) ?AA
        case FF => assumption
        case NN => assumption
        case SS => k_extra "my sub"
        case AA => exact aboveC (off_right (l := g) (l' := news) (off_right (l := g') (l' := g ++ news) (by k_extra "my off1"))) above0
theorem pf1 (w : World) (x dx dd cl rv rvd rl nv nd nl : Addr) (od : Obj) (xvs rvs : List Value) (nms : List Str) (pcss : List (List (Str × List Str))) (g : Led) (r : Nat) (n1 n2 : Nat) (t t1 t2 t3 t4 t5 r1 r2 r3 r4 r5 r6 : Tok) (v1 : Value) (nvs : List Value) (n3 : Nat) (s1 s2 s3 s4 s5 s6 : Tok) (hnv : StrsAre nvs nms) (hncl : ∀ p ∈ nms, Clean p) 
  (hr : HidP (r = 1 ∨ r = 2)) (hcols : Cols w (r : Int) g xvs nms pcss) (hc : HC xvs.length) (hc3 : HidP (xvs.length ≤ 3)) (hi : IntsAre rvs (rowNums r)) (hlo : (dd == sysModules) = false)
  (hd : Obj.IsDictOf (PySem.strKind PySem.Challenge.rw_qd0173_01.row.prog w) od [(Str.ofString "class", v1), (Str.ofString "row.names", Value.ref rv), (Str.ofString "names", Value.ref nv)]) :
  Tell 500 500 w 425 [.ref x] [] ([(x, instObj 199 dx), (dx, vecD w.params t1 t2 t3 t4 t5 (.str (Str.ofString "list") t) (.ref cl) (.ref dd)), (dd, od), (cl, lst xvs n1), (rv, instObj 199 rvd), (rvd, vecD w.params r1 r2 r3 r4 r5 (.str (Str.ofString "integer") r6) (.ref rl) .none), (rl, lst rvs n2), (nv, instObj 199 nd), (nd, vecD w.params s1 s2 s3 s4 s5 (.str (Str.ofString "character") s6) (.ref nl) .none), (nl, lst nvs n3)] ++ g) []
    (fun R => ∀ b lines k, StrsAre lines (framed r pcss.flatten) → R (.ref b) [] [(b, lst lines k)]) :=
  pfj w x dx dd cl rv rvd rl od xvs rvs nms pcss g [(nv, instObj 199 nd), (nd, vecD w.params s1 s2 s3 s4 s5 (.str (Str.ofString "character") s6) (.ref nl) .none), (nl, lst nvs n3)] [(Str.ofString "names", Value.ref nv)] r n1 n2 t t1 t2 t3 t4 t5 r1 r2 r3 r4 r5 r6 v1 (.inr ⟨nv, nd, nl, s1, s2, s3, s4, s5, s6, nvs, n3, rfl, rfl, hnv, hncl⟩) hr hcols hc hc3 hi hlo hd
theorem pf0 (w : World) (x dx dd cl rv rvd rl : Addr) (od : Obj) (xvs rvs : List Value) (nms : List Str) (pcss : List (List (Str × List Str))) (g : Led) (r : Nat) (n1 n2 : Nat) (t t1 t2 t3 t4 t5 r1 r2 r3 r4 r5 r6 : Tok) (v1 : Value) (hna : ∀ p ∈ nms, p = Str.ofString "NA") 
  (hr : HidP (r = 1 ∨ r = 2)) (hcols : Cols w (r : Int) g xvs nms pcss) (hc : HC xvs.length) (hc3 : HidP (xvs.length ≤ 3)) (hi : IntsAre rvs (rowNums r)) (hlo : (dd == sysModules) = false)
  (hd : Obj.IsDictOf (PySem.strKind PySem.Challenge.rw_qd0173_01.row.prog w) od [(Str.ofString "class", v1), (Str.ofString "row.names", Value.ref rv)]) :
  Tell 500 500 w 425 [.ref x] [] ([(x, instObj 199 dx), (dx, vecD w.params t1 t2 t3 t4 t5 (.str (Str.ofString "list") t) (.ref cl) (.ref dd)), (dd, od), (cl, lst xvs n1), (rv, instObj 199 rvd), (rvd, vecD w.params r1 r2 r3 r4 r5 (.str (Str.ofString "integer") r6) (.ref rl) .none), (rl, lst rvs n2)] ++ g) []
    (fun R => ∀ b lines k, StrsAre lines (framed r pcss.flatten) → R (.ref b) [] [(b, lst lines k)]) :=
  pfj w x dx dd cl rv rvd rl od xvs rvs nms pcss g [] [] r n1 n2 t t1 t2 t3 t4 t5 r1 r2 r3 r4 r5 r6 v1 (.inl ⟨rfl, rfl, hna⟩) hr hcols hc hc3 hi hlo hd
-- part Ll
theorem inplaceOp_list {M : Model} {A : Around} {E : Value → Shared → Prop} {s : Shared} {a b : Value} {Q : Value → Shared → Prop} (ha : s.TypeIs a "list") (hb : s.TypeIs b "list")
    (hc : wpAny M A (call (.builtin "list.__iadd__") [a, b]) Q E s) : wpAny M A (inplaceOp .Add a b) Q E s := by
  unfold inplaceOp
  refine wpAny_holding ?_
  have hl := PySem.F.slot_list_iadd.lookup
  have hfi : fillsInplaceSlot (.type "list") "add" (Operator.Add == .Add) = pure false := by
    unfold fillsInplaceSlot
    show (typeLookup (.type "list") (dunderI "add") >>= fun fi => pure (fi.isSome && !isSeqSlot fi)) = pure false
    rw [hl]
    show (pure (true && !isSeqSlotId "list.__iadd__") : Sem Bool) = pure false
    rw [show isSeqSlotId "list.__iadd__" = true from by decide +kernel]
    rfl
  have hsi : seqSlot? (.type "list") (dunderI "add") = pure (some (.builtin "list.__iadd__")) := PySem.seqSlot_of hl (by decide +kernel)
  refine wpAny_bind (wpAny_typeOf ha (wpAny_bind (wpAny_of_eq hfi ?_)))
  show wpAny M A (if false = true then _ else _) Q E s
  rw [if_neg Bool.false_ne_true]
  refine wpAny_bind (binaryOp1_none (nm := "add") ha hb noFill_list_add ?_)
  refine wpAny_bind (wpAny_of_eq hsi ?_)
  exact wpAny_bind (wpAny_rule hc)
theorem iadd_ {prog : Program} {w : World} {A : Around} {E : Value → Shared → Prop} {s : Shared} {h₀ : Heap} {L D b : Addr} {m : Str → Option Value} {news news' : Led} {vs vs2 : List Value} {n n2 : Nat} {Q : Value → Shared → Prop}
    (F : Fr h₀ L s.heap m) (N : News h₀ L s.heap news) (hb : (b, lst vs2 n2) ∈ news) (hne : vs2.length ≠ 0) (U : Upd D (lst vs n) (lst (vs ++ vs2) (n + 1)) news news') (hz : vs.length ≤ 1000) (hz2 : vs2.length ≤ 1000)
    (h : ∀ h', Fr h₀ L h' m → News h₀ L h' news' → Q (.ref D) { s with heap := h' }) : wpAny (model prog w) A (inplaceOp .Add (.ref D) (.ref b)) Q E s := by
  obtain ⟨pre, post, rfl, rfl, a, c⟩ := U.split
  have z := N (D, lst vs n) (List.mem_append.mpr (.inr (.head _)))
  have zb := N _ hb
  refine inplaceOp_list ⟨_, z.1, rfl⟩ ⟨_, zb.1, rfl⟩ ?_
  refine call_meets PySem.F.slot_list_iadd ⟨_, z.1, rfl⟩ PySem.F.entry_list_iadd (PySem.F.args_list_iadd_2 _ _) (PySem.AutoSeq1.list___iadd___list_list_0 D vs.toArray n b vs2.toArray n2 ?_ ?_ ?_) ⟨z.1, zb.1, h _ (F.change (Heap.SameBut.update ..) z.2.1 z.2.2) (kl_turn _ N a c ?_ ?_)⟩
  · have e : Builtin.List.listTooLong (vs.toArray.size + vs2.toArray.size) = false := by
      unfold Builtin.List.listTooLong
      refine decide_eq_false ?_
      rw [sizeLine_eq]
      simp only [List.size_toArray]
      omega
    rw [e]; simp
  · rw [sizeLine_eq]; simp; omega
  · rw [sizeLine_eq]; simp; omega
  · simp
  · simpa using hne
theorem set_ {prog : Program} {w : World} {A : Around} {E : Value → Shared → Prop} {s : Shared} {h₀ : Heap} {L D : Addr} {m : Str → Option Value} {news news' : Led} {vs : List Value} {n : Nat} {k : Int} {t : Tok} {x : Value} {Q : Unit → Shared → Prop}
    (F : Fr h₀ L s.heap m) (N : News h₀ L s.heap news) (U : Upd D (lst vs n) (lst (vs.set k.toNat x) n) news news') (h0 : 0 ≤ k) (h1 : k < vs.length) (hz : vs.length ≤ 1000)
    (h : ∀ h', Fr h₀ L h' m → News h₀ L h' news' → Q () { s with heap := h' }) : wpAny (model prog w) A (setItem (.ref D) (.int k t) x) Q E s := by
  obtain ⟨pre, post, rfl, rfl, a, b⟩ := U.split
  have z := N (D, lst vs n) (List.mem_append.mpr (.inr (.head _)))
  have hs : vs.toArray.size = vs.length := List.size_toArray
  refine ki_setAt (items := vs.toArray) (n := n) z.1 h0 (by omega) (by omega) (h _ (F.change (Heap.SameBut.update ..) z.2.1 z.2.2) (ki_turn _ N a b ?_ ?_))
  · show vs.toArray.setIfInBounds k.toNat x = (vs.set k.toNat x).toArray
    apply Array.toList_inj.mp
    simp
  · simp
theorem get_ {prog : Program} {w : World} {A : Around} {E : Value → Shared → Prop} {s : Shared} {h₀ : Heap} {L D : Addr} {news : Led} {vs : List Value} {n : Nat} {k : Int} {t : Tok} {x : Value} {Q : Value → Shared → Prop}
    (N : News h₀ L s.heap news) (hm : (D, lst vs n) ∈ news) (h0 : 0 ≤ k) (hhi : k < 2 ^ 63) (hx : vs[k.toNat]? = some x) (h : Q x s) : wpAny (model prog w) A (getItem (.ref D) (.int k t)) Q E s :=
  wpAny_getItem_list (News.isList N hm) h0 hhi (by simpa using hx) h
def menu (j : Nat) : Str := if j = 0 then Str.ofString "k" else if j = 1 then Str.ofString "long" else Str.ofString "m"
theorem menu_at {l : Addr} {h₀ : Heap} {L : Addr} {news : Led} {n : Nat} {t1 t2 t3 : Tok} {prog : Program} {w : World} {A : Around} {E : Value → Shared → Prop} {s : Shared} {value slice : PySem.Expr} {i : Nat} {u : Tok} {Q : Value → Shared → Prop}
    (N : News h₀ L s.heap news) (hm : (l, W.listOf #[.str (Str.ofString "k") t1, .str (Str.ofString "long") t2, .str (Str.ofString "m") t3] n) ∈ news) (hi : i < 3) (h : ∀ t, Q (.str (menu i) t) s)
    (hs : subscripted slice false (.ref l) (.int (0 + (i : Int)) u) = operate [.ref l, .int (0 + (i : Int)) u] (getItem (.ref l) (.int (0 + (i : Int)) u)) := by with_unfolding_all rfl) :
    wpAny (model prog w) A (subscriptTail value slice (.ref l) (.int (0 + (i : Int)) u)) Q E s := by
  have hx : ∃ t, ([.str (Str.ofString "k") t1, .str (Str.ofString "long") t2, .str (Str.ofString "m") t3] : List Value)[(0 + (i : Int)).toNat]? = some (.str (menu i) t) := by
    have e0 : (0 + (i : Int)).toNat = i := by omega
    rw [e0]
    have : i = 0 ∨ i = 1 ∨ i = 2 := by omega
    rcases this with rfl | rfl | rfl
    · exact ⟨t1, rfl⟩
    · exact ⟨t2, rfl⟩
    · exact ⟨t3, rfl⟩
  obtain ⟨t, hx⟩ := hx
  exact item_lit N hm (by omega) (by omega) hx (h t) hs
theorem menu_len (i : Nat) : (menu i).length ≤ 4 := by
  unfold menu
  split
  · decide +kernel
  · split <;> decide +kernel
theorem menu_clean (i : Nat) : Clean (menu i) := by
  unfold menu
  split
  · refine ⟨?_, ?_, ?_, ?_⟩ <;> decide +kernel
  · split <;> (refine ⟨?_, ?_, ?_, ?_⟩ <;> decide +kernel)
def Bnd (r k : Int) : Prop := 0 ≤ r ∧ r < k
theorem bnd_of {r k : Int} (h0 : 0 ≤ r) (h1 : r < k) : Bnd r k := ⟨h0, h1⟩
/-- what stands between two turns of the law's first loop -/
structure St where
  cvs : List Value
  k1 : Nat
  pvs : List Value
  k2 : Nat
  tvs : List Value
  tns : List Int
  tn : Nat
  g : Led
  nms : List Str
  pcss : List (List (Str × List Str))
def StOk (w : World) (r : Int) (nm : Nat → Str) (ca ta tr : Addr) (i : Nat) (c : St) : Prop :=
  IntsAre c.tvs c.tns ∧ c.tns.length ≤ 50 ∧ Cols w r c.g c.cvs c.nms c.pcss ∧ PiecesIn c.g c.pvs c.pcss.flatten ∧ c.cvs.length = i ∧ c.nms = (List.range i).map nm ∧ LCg.Off1 ca c.g ∧ LCg.Off1 ta c.g ∧ LCg.Off1 tr c.g
def StLed (ca ta tr : Addr) (c : St) : Led := (tr, lst c.tvs c.tn) :: (ta, lst c.pvs c.k2) :: (ca, lst c.cvs c.k1) :: c.g
theorem st0 {w : World} {r : Int} {nm : Nat → Str} {ca ta tr : Addr} {tvs : List Value} {tns : List Int} {tn : Nat} (h1 : IntsAre tvs tns) (h2 : tns.length ≤ 50) : StOk w r nm ca ta tr 0 ⟨[], 0, [], 0, tvs, tns, tn, [], [], []⟩ :=
  ⟨h1, h2, .nil, .nil, rfl, rfl, trivial, trivial, trivial⟩
theorem st_next {w : World} {r : Int} {nm : Nat → Str} {ca ta tr : Addr} {i : Nat} {c : St} {x : Addr} {need g2 : Led} {pv2 : List Value} {pcs : List (Str × List Str)} {tvs : List Value} {tns : List Int} {tn k1 k2 : Nat}
    (h : StOk w r nm ca ta tr i c) (h1 : IntsAre tvs tns) (h2 : tns.length ≤ 50) (hP : PiecesIn g2 pv2 pcs) (hS : Shows w x r (nm i) need pcs) (hF : Fine r pcs) (o1 : LCg.Off1 ca (need ++ g2)) (o2 : LCg.Off1 ta (need ++ g2)) (o3 : LCg.Off1 tr (need ++ g2)) :
    StOk w r nm ca ta tr (i + 1) ⟨c.cvs ++ [.ref x], k1, c.pvs ++ pv2, k2, tvs, tns, tn, (need ++ g2) ++ c.g, c.nms ++ [nm i], c.pcss ++ [pcs]⟩ := by
  obtain ⟨_, _, a3, a4, a5, a6, a7, a8, a9⟩ := h
  refine ⟨h1, h2, (a3.mono fun p hp => List.mem_append.mpr (.inr hp)).snoc hS hF (fun p hp => List.mem_append.mpr (.inl (List.mem_append.mpr (.inl hp)))), ?_, ?_, ?_, off_app o1 a7, off_app o2 a8, off_app o3 a9⟩
  · show PiecesIn _ _ (c.pcss ++ [pcs]).flatten
    rw [List.flatten_append, List.flatten_cons, List.flatten_nil, List.append_nil]
    exact (a4.mono fun p hp => List.mem_append.mpr (.inr hp)).append (hP.mono fun p hp => List.mem_append.mpr (.inl (List.mem_append.mpr (.inr hp))))
  · show (c.cvs ++ [Value.ref x]).length = i + 1
    rw [List.length_append, a5]; rfl
  · show c.nms ++ [nm i] = _
    rw [a6, List.range_succ, List.map_append]; rfl
-- part Lt
section
variable {prog : Program} {w : World} {A : Around} {E : Value → Shared → Prop} {s : Shared} {env : Env} {h₀ : Heap} {target : Expr} {x : Str} {body : List Stmt} {Q : Flow → Shared → Prop}
theorem loopT {l : Addr} {vs : List Value} {nn : Nat} {m₀ : Str → Option Value} {news : Led} (J : Nat → (Str → Option Value) → Led → Prop)
    (hh : A.handled = none) (hl : (l, lst vs nn) ∈ news) (F : Fr h₀ env.locals s.heap m₀) (N : News h₀ env.locals s.heap news) (hj : J 0 m₀ news) (hk : ∀ i m nx, J i m nx → (l, lst vs nn) ∈ nx)
    (turn : ∀ i v m₁ nx h tk I oi, vs[i]? = some v → (∀ q ∈ nx, q.1 ≠ I) → J i m₁ nx → Fr h₀ env.locals h m₁ → News h₀ env.locals h ((I, oi) :: nx) →
      wpAny (model prog w) A (assign target env v) (fun _ s₃ => wpAny (model prog w) A (execs body env) (LPost h₀ env.locals (J (i + 1)) (I, oi) { s with heap := h, toks := tk } Q) E s₃) E { s with heap := h, toks := tk })
    (done : ∀ m₁ nx h tk, J vs.length m₁ nx → Fr h₀ env.locals h m₁ → News h₀ env.locals h nx → Q .next { s with heap := h, toks := tk }) :
    wpAny (model prog w) A (pyIter (.ref l)) (fun it s₂ => TurnsAt prog w A h₀ env target body Q E it s₂) E s := by
  have hol : s.heap.get? l = some (lst vs nn) := (N _ hl).1
  have hls : s.heap.IsList l vs.toArray := ⟨_, hol, rfl, nn, rfl⟩
  have hne : l ≠ s.heap.objs.size := Nat.ne_of_lt (Heap.lt_size hol)
  refine wpAny_pyIter_list hls ?_
  have W := KTurns.ofWalks (target := target) (Walks.list (prog := prog) (w := w) hh s.heap.objs.size l hne vs.toArray) fun i v s Q E st q => letGo_listiter st.1 q
  have hlen : vs.toArray.size = vs.length := by simp
  rw [hlen] at W
  refine ⟨_, _, _, vs.length, _, _, _, m₀, news, J, rfl, W, ?_, ?_, ?_, ⟨⟨_, Heap.get?_push_size _ rfl, rfl, rfl⟩, hls.at fun o e => Heap.get?_push_of_some _ e⟩, F.push _, (fun p hp => ⟨Heap.get?_push_of_some _ (N p hp).1, (N p hp).2⟩), hj, ?_, ?_⟩
  · intro hm
    rcases List.mem_cons.mp hm with e | hm
    · exact absurd F.ns.lt (e ▸ Nat.lt_irrefl _)
    · exact (N _ hl).2.1 ((List.mem_singleton.mp hm).symm)
  · intro b hb
    rw [List.mem_singleton.mp hb]
    exact next_is_new F
  · intro p hp hI
    exact absurd (Heap.lt_size (N p hp).1) ((List.mem_singleton.mp hI) ▸ Nat.lt_irrefl _)
  · rintro i v m₁ news₁ hh' tk' own hin hP hJ hoff hown hget hmem hst F₁ N₁
    obtain ⟨⟨oi, hoi, _⟩, _⟩ := hst
    have hI : (s.heap.objs.size, oi) ∈ own := hmem _ (.head _) (next_is_new F) oi hoi
    have hl₁ := hk i m₁ news₁ hJ
    have N₂ : News h₀ env.locals hh' ((s.heap.objs.size, oi) :: news₁) := fun p hp => N₁ p ((List.mem_cons.mp hp).elim (fun h => List.mem_append.mpr (.inl (h ▸ hI))) fun h => List.mem_append.mpr (.inr h))
    have hlo : hh'.get? l = some (lst vs nn) := (N₁ _ (List.mem_append.mpr (.inr hl₁))).1
    refine wpAny_mono (turn i v m₁ news₁ hh' tk' s.heap.objs.size oi (by simpa using hP) (fun q hq e => hoff q hq (List.mem_singleton.mpr e)) hJ F₁ N₂) (fun _ s₃ h₃ => wpAny_mono h₃ (fun f s₂ p => ?_) fun _ _ e => e) fun _ _ e => e
    have fin : LEnd h₀ env.locals (J (i + 1)) (s.heap.objs.size, oi) { s with heap := hh', toks := tk' } s₂ → LoopStepU h₀ env.locals [s.heap.objs.size] own (J (i + 1)) { s with heap := hh', toks := tk' } .next s₂ := by
      rintro ⟨h', tk, m', nx, e, F', N', ho, hm⟩
      refine ⟨rfl, h', tk, m', nx, e, F', fun p hp => ?_, fun p hp hI' => ho p hp (List.mem_singleton.mp hI'), hm⟩
      rcases List.mem_append.mp hp with h | h
      · rcases List.mem_cons.mp (hown p h) with h2 | h2
        · have h3 : hh'.get? p.1 = some p.2 := hget p h
          rw [h2, hoi] at h3
          have h4 : p = (s.heap.objs.size, oi) := Prod.ext h2 (Option.some.inj h3).symm
          rw [h4]
          exact N' _ (.head _)
        · have h1 := List.mem_singleton.mp h2
          have h3 : hh'.get? p.1 = some p.2 := hget p h
          rw [h1, hlo] at h3
          have h4 : p = (l, lst vs nn) := Prod.ext h1 (Option.some.inj h3).symm
          rw [h4]
          exact N' _ (.tail _ (hk _ _ _ hm))
      · exact N' p (.tail _ h)
    cases f with
    | ret v => exact .ret p
    | brk => exact .brk p
    | next => exact .next (fin p)
    | cont => exact .cont (fin p)
  · rintro h' tk m' news' F' N' _ hJ
    exact done m' news' h' tk hJ F' N'
theorem ksT {σ : Type} {l : Addr} {vs : List Value} {nn : Nat} {m₀ : Str → Option Value} (Ld : σ → Led) (ps : σ → List (Str × Value)) (stored : List Str) (P : Nat → σ → Prop) (c₀ : σ)
    (hh : A.handled = none) (hl : ∀ c, (l, lst vs nn) ∈ Ld c) (F : Fr h₀ env.locals s.heap m₀) (N : News h₀ env.locals s.heap (Ld c₀)) (hk : ∀ p ∈ ps c₀, m₀ p.1 = some p.2) (hp : P 0 c₀)
    (turn : ∀ i v c (u : Str → Option Value) h tk I oi, vs[i]? = some v → (∀ q ∈ Ld c, q.1 ≠ I) → P i c → Fr h₀ env.locals h (fun y => if y = x then u y else kstB (fun z => if stored.contains z then u z else m₀ z) (ps c) y) → News h₀ env.locals h ((I, oi) :: Ld c) →
      wpAny (model prog w) A (assign target env v) (fun _ s₃ => wpAny (model prog w) A (execs body env) (LPost h₀ env.locals (KS Ld ps x stored m₀ P (i + 1)) (I, oi) { s with heap := h, toks := tk } Q) E s₃) E { s with heap := h, toks := tk })
    (done : ∀ c (u : Str → Option Value) h tk, P vs.length c → Fr h₀ env.locals h (fun y => if y = x then u y else kstB (fun z => if stored.contains z then u z else m₀ z) (ps c) y) → News h₀ env.locals h (Ld c) → Q .next { s with heap := h, toks := tk }) :
    wpAny (model prog w) A (pyIter (.ref l)) (fun it s₂ => TurnsAt prog w A h₀ env target body Q E it s₂) E s := by
  refine loopT (KS Ld ps x stored m₀ P) hh (hl c₀) F N ⟨c₀, rfl, hk, fun _ _ _ _ => rfl, hp⟩ ?_ ?_ ?_
  · rintro i m nx ⟨c, rfl, _⟩
    exact hl c
  · rintro i v m₁ nx h tk I oi hv ho ⟨c, rfl, h1, h2, hp'⟩ F₁ N₁
    exact turn i v c m₁ h tk I oi hv ho hp' (kst_frOut h1 h2 F₁) N₁
  · rintro m₁ nx h tk ⟨c, rfl, h1, h2, hp'⟩ F₁ N₁
    exact done c m₁ h tk hp' (kst_frOut h1 h2 F₁) N₁
theorem ksTc {l : Addr} {vs : List Value} {nn : Nat} {m₀ : Str → Option Value} {fo : Addr} {pv0 : List Value} {k0 : Nat} (base : Led) (ps : List (Str × Value)) (stored : List Str) (P : Nat → List Value → Prop)
    (hh : A.handled = none) (hl : (l, lst vs nn) ∈ base) (F : Fr h₀ env.locals s.heap m₀) (N : News h₀ env.locals s.heap ((fo, lst pv0 k0) :: base)) (hk : ∀ p ∈ ps, m₀ p.1 = some p.2) (hp : P 0 pv0)
    (turn : ∀ i v dvs k (u : Str → Option Value) h tk I oi, vs[i]? = some v → Difs I ((fo, lst dvs k) :: base) → P i dvs → Fr h₀ env.locals h (fun y => if y = x then u y else kstB (fun z => if stored.contains z then u z else m₀ z) ps y) → News h₀ env.locals h ((I, oi) :: (fo, lst dvs k) :: base) →
      wpAny (model prog w) A (assign target env v) (fun _ s₃ => wpAny (model prog w) A (execs body env) (LPost h₀ env.locals (KS (fun c : List Value × Nat => (fo, lst c.1 c.2) :: base) (fun _ => ps) x stored m₀ (fun i c => P i c.1) (i + 1)) (I, oi) { s with heap := h, toks := tk } Q) E s₃) E { s with heap := h, toks := tk })
    (done : ∀ dvs k (u : Str → Option Value) h tk, P vs.length dvs → Fr h₀ env.locals h (fun y => if y = x then u y else kstB (fun z => if stored.contains z then u z else m₀ z) ps y) → News h₀ env.locals h ((fo, lst dvs k) :: base) → Q .next { s with heap := h, toks := tk }) :
    wpAny (model prog w) A (pyIter (.ref l)) (fun it s₂ => TurnsAt prog w A h₀ env target body Q E it s₂) E s :=
  ksT (σ := List Value × Nat) (fun c => (fo, lst c.1 c.2) :: base) (fun _ => ps) stored (fun i c => P i c.1) (pv0, k0) hh (fun _ => .tail _ hl) F N hk hp
    (fun i v c u h tk I oi hv ho hp' F₁ N₁ => turn i v c.1 c.2 u h tk I oi hv (difs_of (off_of ho)) hp' F₁ N₁) (fun c u h tk hp' F₁ N₁ => done c.1 c.2 u h tk hp' F₁ N₁)
end
section
variable {prog : Program} {w : World} {A : Around} {h₀ : Heap} {L : Addr} {m : Str → Option Value} {env : Env} {elt : Expr} {x : Str} {scope : Scope} {cl : List (Str × Addr)} {s : Shared} {S : Led → Prop} {Pv : Nat → Value → Prop} {Fin : List Value → Led → Prop} {news : Led}
theorem comp_nums {n : Nat} (f : Nat → Int)
    (turn : ∀ i ys v I oI C oC D m₂ h tk (E' : Value → Shared → Prop), i < n → Pv i v → LCg.NsObj oC m₂ → m₂ x = some v → Fr h₀ L h m → News h₀ L h ((I, oI) :: (C, oC) :: (D, LCg.lst ys) :: news) → LCg.Off3 I C D news → ((@Ne Nat I C) ∧ (@Ne Nat I D) ∧ (@Ne Nat C D)) →
      wpAny (model prog w) A (eval elt (compEnvC scope cl C env)) (LCg.CompEnd h₀ L m { s with heap := h, toks := tk } I oI C oC D (LCg.lst ys) S (fun y nw' => nw' = news ∧ ∃ t, y = .int (f i) t)) E' { s with heap := h, toks := tk })
    (fin : ∀ us, IntsAre us ((List.range n).map f) → Fin us news) : LCg.CompRest prog w A h₀ L m env elt x scope cl s S Pv Fin n 0 [] news := by
  refine comp_all (fun i ys nw => nw = news ∧ IntsAre ys ((List.range i).map f)) ⟨rfl, .nil⟩ ?_ ?_
  · rintro i ys nw v I oI C oC D m₂ h tk E' hi hv ⟨rfl, hy⟩ hC hx F N off ne
    refine wpAny_mono (turn i ys v I oI C oC D m₂ h tk E' hi hv hC hx F N off ne) (fun y s₂ hq => ?_) fun _ _ e => e
    obtain ⟨h', tk', nw', e, F', N', off', hS, rfl, t, rfl⟩ := hq
    refine ⟨h', tk', _, e, F', N', off', hS, rfl, ?_⟩
    rw [List.range_succ, List.map_append]
    exact ints_snoc hy
  · rintro ys nw ⟨rfl, hy⟩
    exact fin ys hy
end
/-- a line of the table, grown piece by piece -/
def cellH (pc : Str × List Str) : Str := Str.ofString " " ++ Txt.rjust pc.1 (widthOf pc.1 pc.2)
def cellR (j : Nat) (pc : Str × List Str) : Str := Str.ofString " " ++ Txt.rjust (pc.2.getD j Str.empty) (widthOf pc.1 pc.2)
def rowTo (lab : Str) (cells : List Str) : Str := cells.foldl (· ++ ·) lab
def dueAt (r : Nat) (pcs : List (Str × List Str)) : List Str :=
  rowTo (Str.ofString " ") (pcs.map cellH) :: (List.range r).map fun (j : Nat) => rowTo (Str.ofString (toString ((j : Int) + 1))) (pcs.map (cellR j))
theorem app_assoc (x y z : Str) : x ++ y ++ z = x ++ (y ++ z) := Str.ext' (by rw [Str.cps_append, Str.cps_append, Str.cps_append, Str.cps_append]; exact Array.append_assoc)
theorem rowTo_cat : ∀ (cells : List Str) (lab : Str), rowTo lab cells = cat (lab :: cells)
  | [], lab => (app_empty lab).symm
  | c :: r, lab => by
    show rowTo (lab ++ c) r = lab ++ (c ++ cat r)
    rw [rowTo_cat r (lab ++ c)]
    show lab ++ c ++ cat r = _
    rw [app_assoc]
theorem rowTo_snoc (lab : Str) (cells : List Str) (c : Str) : rowTo lab (cells ++ [c]) = rowTo lab cells ++ c := by
  simp [rowTo]
theorem lineOf_rowTo (lab : Str) (xs : List Str) (ws : List Int) : lineOf lab xs ws = rowTo lab (cellsOf xs ws) := by
  rw [rowTo_cat]
  exact join_cat _
theorem cellsH_eq : ∀ pcs : List (Str × List Str), cellsOf (pcs.map (·.1)) (widthsOf (pcs.map (·.1)) (pcs.map (·.2))) = pcs.map cellH
  | [] => rfl
  | p :: r => by
    have h := cellsH_eq r
    simp only [cellsOf, widthsOf, List.map_cons, List.zipWith_cons_cons] at h ⊢
    rw [h]; rfl
theorem cellsR_eq (j : Nat) : ∀ pcs : List (Str × List Str), cellsOf (rowOf (pcs.map (·.2)) j) (widthsOf (pcs.map (·.1)) (pcs.map (·.2))) = pcs.map (cellR j)
  | [] => rfl
  | p :: r => by
    have h := cellsR_eq j r
    simp only [cellsOf, widthsOf, rowOf, List.map_cons, List.zipWith_cons_cons] at h ⊢
    rw [h]; rfl
theorem framed_due (r : Nat) (pcs : List (Str × List Str)) : framed r pcs = dueAt r pcs := by
  unfold framed dueAt
  rw [lineOf_rowTo, cellsH_eq]
  congr 1
  refine List.map_congr_left fun j _ => ?_
  unfold rowLine
  rw [lineOf_rowTo, cellsR_eq]
theorem dueAt_step (r : Nat) (pcs : List (Str × List Str)) (pc : Str × List Str) : dueAt r (pcs ++ [pc]) = (rowTo (Str.ofString " ") (pcs.map cellH) ++ cellH pc) :: (List.range r).map fun (j : Nat) => rowTo (Str.ofString (toString ((j : Int) + 1))) (pcs.map (cellR j)) ++ cellR j pc := by
  unfold dueAt
  simp only [List.map_append, List.map_cons, List.map_nil, rowTo_snoc]
theorem strs_one {vs : List Value} {xs : List Str} (h : StrsAre vs xs) (hl : xs.length = 1) : ∃ a t, vs = [.str a t] ∧ xs = [a] := by
  cases h with
  | nil => cases hl
  | cons a t h => cases h with
    | nil => exact ⟨a, t, rfl, rfl⟩
    | cons b u h => simp at hl
theorem strs_two {vs : List Value} {xs : List Str} (h : StrsAre vs xs) (hl : xs.length = 2) : ∃ a t b u, vs = [.str a t, .str b u] ∧ xs = [a, b] := by
  cases h with
  | nil => cases hl
  | cons a t h =>
    obtain ⟨b, u, rfl, rfl⟩ := strs_one h (by simpa using hl)
    exact ⟨a, t, b, u, rfl, rfl⟩
theorem strs_three {vs : List Value} {xs : List Str} (h : StrsAre vs xs) (hl : xs.length = 3) : ∃ a t b u c v, vs = [.str a t, .str b u, .str c v] ∧ xs = [a, b, c] := by
  cases h with
  | nil => cases hl
  | cons a t h =>
    obtain ⟨b, u, c, v, rfl, rfl⟩ := strs_two h (by simpa using hl)
    exact ⟨a, t, b, u, c, v, rfl, rfl⟩
theorem rowTo_len {B : Nat} : ∀ (cells : List Str) (lab : Str), (∀ c ∈ cells, c.length ≤ B) → (rowTo lab cells).length ≤ lab.length + cells.length * B
  | [], lab, _ => by simp [rowTo]
  | c :: r, lab, h => by
    have h1 := h c (.head _)
    have h2 := rowTo_len r (lab ++ c) fun z hz => h z (.tail _ hz)
    have e : rowTo lab (c :: r) = rowTo (lab ++ c) r := rfl
    rw [e]
    rw [Str.length_append] at h2
    simp only [List.length_cons, Nat.succ_mul]
    omega
theorem width_bd {h : Str} {xs : List Str} (h1 : h.length ≤ 10) (h2 : ∀ z ∈ xs, z.length ≤ 10) : 0 ≤ widthOf h xs ∧ widthOf h xs ≤ 10 := by
  have := mx_bd h2
  unfold widthOf
  omega
theorem cellH_len {pc : Str × List Str} (h1 : pc.1.length ≤ 10) (h2 : ∀ z ∈ pc.2, z.length ≤ 10) : (cellH pc).length ≤ 11 := by
  have := width_bd h1 h2
  unfold cellH
  rw [Str.length_append, rjust_len, len_space]
  omega
theorem cellR_len {j : Nat} {pc : Str × List Str} (h1 : pc.1.length ≤ 10) (h2 : ∀ z ∈ pc.2, z.length ≤ 10) : (cellR j pc).length ≤ 11 := by
  have := width_bd h1 h2
  have h3 : (pc.2.getD j Str.empty).length ≤ 10 := by
    rw [List.getD_eq_getElem?_getD]
    cases hy : pc.2[j]? with
    | none => exact Nat.zero_le _
    | some y => exact h2 y (List.mem_of_getElem? hy)
  unfold cellR
  rw [Str.length_append, rjust_len, len_space]
  omega
theorem dueAt_bd {r : Nat} {ps : List (Str × List Str)} (hr : r ≤ 2) (hl : ps.length ≤ 6) (h : ∀ pc ∈ ps, pc.1.length ≤ 10 ∧ ∀ z ∈ pc.2, z.length ≤ 10) : ∀ z ∈ dueAt r ps, z.length ≤ 100 := by
  intro z hz
  unfold dueAt at hz
  rcases List.mem_cons.mp hz with rfl | hz
  · have h1 := rowTo_len (B := 11) (ps.map cellH) (Str.ofString " ") (fun c hc => by
      obtain ⟨pc, hp, rfl⟩ := List.mem_map.mp hc
      exact cellH_len (h pc hp).1 (h pc hp).2)
    rw [List.length_map, len_space] at h1
    omega
  · obtain ⟨j, hj, rfl⟩ := List.mem_map.mp hz
    have h1 := rowTo_len (B := 11) (ps.map (cellR j)) (Str.ofString (toString ((j : Int) + 1))) (fun c hc => by
      obtain ⟨pc, hp, rfl⟩ := List.mem_map.mp hc
      exact cellR_len (h pc hp).1 (h pc hp).2)
    have hj2 := List.mem_range.mp hj
    have h3 : (Str.ofString (toString ((j : Int) + 1))).length ≤ 10 := num_len (by omega) (by omega)
    rw [List.length_map] at h1
    omega
theorem menu_strs {n : Nat} {t1 t2 t3 : Tok} (h : n ≤ 3) : StrsAre (List.take n [Value.str (Str.ofString "k") t1, Value.str (Str.ofString "long") t2, Value.str (Str.ofString "m") t3]) ((List.range n).map menu) := by
  have e : (List.range n).map menu = List.take n [Str.ofString "k", Str.ofString "long", Str.ofString "m"] := by
    have : n = 0 ∨ n = 1 ∨ n = 2 ∨ n = 3 := by omega
    rcases this with rfl | rfl | rfl | rfl <;> rfl
  rw [e]
  exact (StrsAre.cons _ _ (.cons _ _ (.cons _ _ .nil))).take' _
theorem nums_rows (n : Nat) : (List.range n).map (fun (i : Nat) => 0 + (i : Int) + 1) = rowNums n := by
  unfold rowNums
  refine List.map_congr_left fun j _ => ?_
  rw [Int.zero_add]
theorem unr_pull {h₀ : Heap} {L I : Addr} {it : Obj} {rest : (Str → Option Value) → Led → Prop} {s₁ : Shared} {h' : Heap} {tk : Nat} {m' : Str → Option Value} {all nx : Led} (F : Fr h₀ L h' m') (N : News h₀ L h' all) (P : Pull I it all nx) (off : LCg.Off1 I nx) (r : rest m' nx) :
    UnrEnd h₀ L s₁ I it rest { s₁ with heap := h', toks := tk } := ⟨h', tk, m', nx, rfl, F, fun p hp => N p (P.mem p hp), off_mem off, r⟩
theorem turn1 {ps : List (Str × List Str)} {hd9 c1 d0 d1 : Str} {M : Int} {t u : Tok} (e4 : dueAt 1 ps = [d0, d1]) (a : M = (hd9.length : Int) ∨ M = (c1.length : Int)) (b : (hd9.length : Int) ≤ M ∧ (c1.length : Int) ≤ M) :
    StrsAre [.str (d0 ++ (Str.ofString " " ++ Txt.rjust hd9 M)) t, .str (d1 ++ (Str.ofString " " ++ Txt.rjust c1 M)) u] (dueAt 1 (ps ++ [(hd9, [c1])])) := by
  have e5 := (List.cons.inj e4).1
  have e6 := (List.cons.inj (show [_] = [d1] from (List.cons.inj e4).2)).1
  have hM : M = widthOf hd9 [c1] := by
    unfold widthOf mxLen
    simp only [List.foldl_cons, List.foldl_nil]
    omega
  rw [dueAt_step, ← e5, ← e6, hM]
  exact .cons _ _ (.cons _ _ .nil)
theorem turn2 {ps : List (Str × List Str)} {hd9 c1 c2 d0 d1 d2 : Str} {M : Int} {t u v : Tok} (e4 : dueAt 2 ps = [d0, d1, d2]) (a : M = (hd9.length : Int) ∨ M = (c1.length : Int) ∨ M = (c2.length : Int)) (b : (hd9.length : Int) ≤ M ∧ (c1.length : Int) ≤ M ∧ (c2.length : Int) ≤ M) :
    StrsAre [.str (d0 ++ (Str.ofString " " ++ Txt.rjust hd9 M)) t, .str (d1 ++ (Str.ofString " " ++ Txt.rjust c1 M)) u, .str (d2 ++ (Str.ofString " " ++ Txt.rjust c2 M)) v] (dueAt 2 (ps ++ [(hd9, [c1, c2])])) := by
  have e5 := (List.cons.inj e4).1
  have e6 := (List.cons.inj (show [_, _] = [d1, d2] from (List.cons.inj e4).2)).1
  have e7 := (List.cons.inj (List.cons.inj (show [_, _] = [d1, d2] from (List.cons.inj e4).2)).2).1
  have hM : M = widthOf hd9 [c1, c2] := by
    unfold widthOf mxLen
    simp only [List.foldl_cons, List.foldl_nil]
    omega
  rw [dueAt_step, ← e5, ← e6, ← e7, hM]
  exact .cons _ _ (.cons _ _ (.cons _ _ .nil))
def NoHold : Prop := True
theorem sel2 {x y v : Value} {j : Nat} (h : (#[x].toList ++ #[y].toList).toArray[j]? = some v) (hj : j < 2) : (j = 0 ∧ v = x) ∨ (j = 1 ∧ v = y) := by
  have : j = 0 ∨ j = 1 := by omega
  rcases this with rfl | rfl
  · simp at h; exact .inl ⟨rfl, h.symm⟩
  · simp at h; exact .inr ⟨rfl, h.symm⟩
theorem sel3 {x y z v : Value} {j : Nat} (h : (#[x].toList ++ #[y, z].toList).toArray[j]? = some v) (hj : j < 3) : (j = 0 ∧ v = x) ∨ (j = 1 ∧ v = y) ∨ (j = 2 ∧ v = z) := by
  have : j = 0 ∨ j = 1 ∨ j = 2 := by omega
  rcases this with rfl | rfl | rfl
  · simp at h; exact .inl ⟨rfl, h.symm⟩
  · simp at h; exact .inr (.inl ⟨rfl, h.symm⟩)
  · simp at h; exact .inr (.inr ⟨rfl, h.symm⟩)
theorem ints_two {vs : List Value} {a b : Int} (h : IntsAre vs [a, b]) : ∃ t u, vs = [.int a t, .int b u] := by
  cases h with
  | cons a t h => cases h with
    | cons b u h => cases h; exact ⟨t, u, rfl⟩
theorem ints_three {vs : List Value} {a b c : Int} (h : IntsAre vs [a, b, c]) : ∃ t u v, vs = [.int a t, .int b u, .int c v] := by
  cases h with
  | cons a t h =>
    obtain ⟨u, v, rfl⟩ := ints_two h
    exact ⟨t, u, v, rfl⟩
theorem news_add {h₀ h : Heap} {L : Addr} {all : Led} {q : Addr × Obj} (N : News h₀ L h all) (hq : q ∈ all) : News h₀ L h (q :: all) := drop_to N fun p hp => (List.mem_cons.mp hp).elim (fun e => e ▸ hq) id
theorem stored3 {a b c z : Str} (h : [a, b, c].contains z = false) : z ≠ a ∧ z ≠ b ∧ z ≠ c := by
  simp at h
  exact h
theorem dueAt_nil (r : Nat) : Str.ofString " " :: (List.range r).map nums = dueAt r [] := by
  unfold dueAt
  congr 1
  refine List.map_congr_left fun j _ => ?_
  show Str.ofString (toString (0 + (j : Int) + 1)) = Str.ofString (toString ((j : Int) + 1))
  rw [Int.zero_add]
-- part Lq
theorem strs_at : ∀ {vs us : List Value} {xs : List Str}, StrsAre vs xs → StrsAre us xs → ∀ {j : Nat} {a b : Value}, vs[j]? = some a → us[j]? = some b → ∃ x t u, a = .str x t ∧ b = .str x u
  | _, _, _, .nil, .nil, j, a, b, h, _ => by simp at h
  | _, _, _, .cons x t hi, .cons _ u hj, j, a, b, h, h' => by
    cases j with
    | zero => simp at h h'; exact ⟨x, t, u, h.symm, h'.symm⟩
    | succ j => exact strs_at hi hj (by simpa using h) (by simpa using h')
/-- two lists of the same texts are equal -/
theorem eq_strs_same {prog : Program} {w : World} {A : Around} {E : Value → Shared → Prop} {s : Shared} {h₀ : Heap} {L a b : Addr} {news : Led} {vs us : List Value} {n k : Nat} {xs : List Str} {Q : Value → Shared → Prop}
    (N : News h₀ L s.heap news) (ha : (a, lst vs n) ∈ news) (hb : (b, lst us k) ∈ news) (hi : StrsAre vs xs) (hj : StrsAre us xs) (hu : A.units < cLine) (h : Q (.bool true) s) :
    wpAny (model prog w) A (compareOp .Eq (.ref a) (.ref b)) Q E s := by
  refine PySem.SeqAt.eq_listAt (e := fun _ => true) (News.isList N ha) (News.isList N hb) (by simp [hi.length, hj.length]) hu ?_ (by rw [List.all_eq_true.mpr fun _ _ => rfl]; exact h)
  intro j h1 h2
  obtain ⟨x, t, u, e1, e2⟩ := strs_at hi hj (j := j) (a := vs.toArray[j]) (b := us.toArray[j]) (by simp at h1 ⊢) (by simp at h2 ⊢)
  rw [e1, e2]
  have := PySem.SeqAt.EqAt.str_str (A := A.in1) (s := s) x t x u
  simpa using this
theorem reg_LJ : True := by
  w_top off
  k_with_none
  k_with "tell start" => ((unfold Tell; intro pzz loosezz meanzz mgzz mbzz gdzz cnzz cszz cazz ccdzz clzz outerzz A₀zz basezz h₀zz Lzz mzz newszz szz Qzz Ezz Bzz Fzz Xzz Nzz Tzz hkzz hsepzz hretzz; simp only [List.cons_append, List.nil_append] at Nzz; walk_at "tell enter"))
  k_with "my @call ref" => ((k_here; (with_reducible show wpAny _ _ (call (Value.ref _) _ _) _ _ _); first | walk_at "tell enter" | walk_at "tell enterC"))
  k_with "my cn" => (first | with_reducible exact And.left | with_reducible exact cn_id | ((with_reducible refine cn_sk ?_); k_extra "my cn"))
  k_with "my conj" => ((k_whole; (with_reducible refine cn_pick (by with_reducible assumption) ?_); k_extra "my cn"))
  k_with "my nn" => (first | with_reducible exact sd1 | with_reducible exact sd2 | with_reducible exact sd3 | with_reducible exact sd4 | with_reducible exact sd5 | with_reducible exact sd6 | with_reducible exact sd7 | with_reducible exact se1 | with_reducible exact se2 | with_reducible exact se3 | with_reducible exact se4 | with_reducible exact se5 | with_reducible exact se6 | with_reducible exact se7 | ((with_reducible refine su ?_); k_extra "my nn"))
  k_with "my lt0" => (first | with_reducible assumption | k_extra "my conj")
  k_with "my hyp" => (first | with_reducible assumption | with_reducible exact And.left (by with_reducible assumption) | with_reducible exact And.right (by with_reducible assumption))
  k_with "my omega" => ((k_whole; first | with_reducible assumption | decide | ((with_reducible show @Ne Nat _ _); first | (k_extra "my nn") | with_reducible exact nu1 (by k_extra "my lt0") | with_reducible exact nu2 (by k_extra "my lt0") | with_reducible exact nu3 (by k_extra "my lt0") | with_reducible exact nu4 (by k_extra "my lt0") | with_reducible exact nu5 (by k_extra "my lt0") | with_reducible exact nu6 (by k_extra "my lt0") | with_reducible exact nu7 (by k_extra "my lt0") | with_reducible exact nv1 (by k_extra "my lt0") | with_reducible exact nv2 (by k_extra "my lt0") | with_reducible exact nv3 (by k_extra "my lt0") | with_reducible exact nv4 (by k_extra "my lt0") | with_reducible exact nv5 (by k_extra "my lt0") | with_reducible exact nv6 (by k_extra "my lt0") | with_reducible exact nv7 (by k_extra "my lt0") | with_reducible exact ne_l (by k_extra "my lt0") | with_reducible exact ne_r (by k_extra "my lt0")) | ((with_reducible show @LE.le Nat _ _ _); first | with_reducible exact qm1 (by k_extra "my hyp") (by k_extra "my hyp") (by first | with_reducible exact mx2 (by with_reducible assumption) (by k_extra "my hyp") (by k_extra "my hyp") | with_reducible exact mx3 (by with_reducible assumption) (by k_extra "my hyp") (by k_extra "my hyp") (by k_extra "my hyp")) (by decide) | with_reducible exact qm2 (by k_extra "my hyp") (by first | with_reducible exact mx2 (by with_reducible assumption) (by k_extra "my hyp") (by k_extra "my hyp") | with_reducible exact mx3 (by with_reducible assumption) (by k_extra "my hyp") (by k_extra "my hyp") (by k_extra "my hyp")) (by decide) | with_reducible exact qn1 (by k_extra "my hyp") (by decide) | with_reducible exact qn2 (by k_extra "my hyp") (by decide) | with_reducible exact qn8 (by k_extra "my hyp") (by k_extra "my hyp") (by decide) | with_reducible exact qn7 (by k_extra "my hyp") (by k_extra "my hyp") (by decide) | with_reducible exact qn10 (by k_extra "my hyp") (by k_extra "my hyp") (by decide) | with_reducible exact qn14 (by k_extra "my hyp") (by k_extra "my hyp") (by decide) | with_reducible exact qn13 (by k_extra "my hyp") (by decide) | with_reducible exact qn5 (by k_extra "my hyp") (by decide) | with_reducible exact qn6 (by k_extra "my hyp") (by k_extra "my hyp") (by decide) | with_reducible exact qn6b (by k_extra "my hyp") (by k_extra "my hyp") (by decide) | with_reducible exact qn6c (by k_extra "my hyp") (by k_extra "my hyp") (by decide) | with_reducible exact qn11 (by k_extra "my hyp") (by decide)) | ((with_reducible show @LT.lt Nat _ _ _); first | with_reducible exact qn3 (by k_extra "my hyp") (by decide) | with_reducible exact qn4 (by k_extra "my hyp") (by decide) | with_reducible exact qn9 (by k_extra "my hyp") (by k_extra "my hyp") (by decide) | with_reducible exact qn12 (by k_extra "my hyp") (by k_extra "my hyp") (by decide)) | ((with_reducible show @LE.le Int _ _ _); first | with_reducible exact qi1 (by k_extra "my hyp") (by decide) | with_reducible exact qi2 (by k_extra "my hyp") (by decide) | with_reducible exact qi5 (by k_extra "my hyp") (by decide) | with_reducible exact qi6 (by k_extra "my hyp") (by decide) | with_reducible exact qc5 (by decide) | with_reducible exact qc2 (by k_extra "my hyp") (by decide) | with_reducible exact qc7 (by decide) | with_reducible exact qc4 (by k_extra "my hyp") (by decide) | with_reducible exact qc11 (by decide) | with_reducible exact qc13 (by k_extra "my hyp") (by decide) | with_reducible exact qq1 (by k_extra "my hyp") (by decide) | with_reducible exact qq2 (by k_extra "my hyp") (by decide) | with_reducible exact qi10 (by k_extra "my hyp") (by decide)) | ((with_reducible show @LT.lt Int _ _ _); first | with_reducible exact mxi2 (by with_reducible assumption) (by k_extra "my hyp") (by k_extra "my hyp") (by decide) | with_reducible exact mxi3 (by with_reducible assumption) (by k_extra "my hyp") (by k_extra "my hyp") (by k_extra "my hyp") (by decide) | with_reducible exact qc14 (by with_reducible assumption) (by decide) | with_reducible exact qi3 (by k_extra "my hyp") (by decide) | with_reducible exact qi4 (by k_extra "my hyp") (by decide) | with_reducible exact qi7 (by k_extra "my hyp") (by decide) | with_reducible exact qi8 (by k_extra "my hyp") (by decide) | with_reducible exact qc6 (by decide) | with_reducible exact qc1 (by k_extra "my hyp") (by decide) | with_reducible exact qc8 (by decide) | with_reducible exact qc3 (by k_extra "my hyp") (by decide) | with_reducible exact qc12 (by decide) | with_reducible exact qc9 (by k_extra "my hyp") (by decide) | with_reducible exact qi9 (by k_extra "my hyp") (by decide)) | ((with_reducible show @Eq Nat _ _); first | with_reducible exact qe1 | with_reducible exact qe2) | ((with_reducible show Not _); first | with_reducible exact qc10 (by k_extra "my hyp") (by decide))))
  k_with "my ne" => (((refine neN ?_); (try dsimp only); first | with_reducible assumption | exact dif_ne (by with_reducible assumption) | exact dif_ne' (by with_reducible assumption) | k_extra "my difne" | with_reducible exact ne_l (by k_extra "my conj") | with_reducible exact ne_r (by k_extra "my conj") | omega))
  k_with "my difne" => (first | (refine difs_pick (by with_reducible assumption) ?_; intro h9zz; first | exact difs_at h9zz 0 rfl | exact difs_at h9zz 1 rfl | exact difs_at h9zz 2 rfl | exact difs_at h9zz 3 rfl | exact difs_at h9zz 4 rfl | exact difs_at h9zz 5 rfl | exact difs_at h9zz 6 rfl | exact difs_at h9zz 7 rfl | exact difs_at h9zz 8 rfl | exact difs_at h9zz 9 rfl | exact difs_at h9zz 10 rfl | exact difs_at h9zz 11 rfl | exact difs_at h9zz 12 rfl | exact difs_at h9zz 13 rfl | exact difs_at h9zz 14 rfl | exact difs_at h9zz 15 rfl | exact difs_at h9zz 16 rfl | exact difs_at h9zz 17 rfl | exact difs_at h9zz 18 rfl | exact difs_at h9zz 19 rfl | exact difs_at h9zz 20 rfl | exact difs_at h9zz 21 rfl | exact difs_at h9zz 22 rfl | exact difs_at h9zz 23 rfl | exact difs_at h9zz 24 rfl | exact difs_at h9zz 25 rfl | exact difs_at h9zz 26 rfl | exact difs_at h9zz 27 rfl | exact difs_at h9zz 28 rfl | exact difs_at h9zz 29 rfl | exact difs_at h9zz 30 rfl | exact difs_at h9zz 31 rfl | exact difs_at h9zz 32 rfl | exact difs_at h9zz 33 rfl | exact difs_at h9zz 34 rfl | exact difs_at h9zz 35 rfl | exact difs_at h9zz 36 rfl | exact difs_at h9zz 37 rfl | exact difs_at h9zz 38 rfl | exact difs_at h9zz 39 rfl) | (refine difs_pick' (by with_reducible assumption) ?_; intro h9zz; first | exact difs_at' h9zz 0 rfl | exact difs_at' h9zz 1 rfl | exact difs_at' h9zz 2 rfl | exact difs_at' h9zz 3 rfl | exact difs_at' h9zz 4 rfl | exact difs_at' h9zz 5 rfl | exact difs_at' h9zz 6 rfl | exact difs_at' h9zz 7 rfl | exact difs_at' h9zz 8 rfl | exact difs_at' h9zz 9 rfl | exact difs_at' h9zz 10 rfl | exact difs_at' h9zz 11 rfl | exact difs_at' h9zz 12 rfl | exact difs_at' h9zz 13 rfl | exact difs_at' h9zz 14 rfl | exact difs_at' h9zz 15 rfl | exact difs_at' h9zz 16 rfl | exact difs_at' h9zz 17 rfl | exact difs_at' h9zz 18 rfl | exact difs_at' h9zz 19 rfl | exact difs_at' h9zz 20 rfl | exact difs_at' h9zz 21 rfl | exact difs_at' h9zz 22 rfl | exact difs_at' h9zz 23 rfl | exact difs_at' h9zz 24 rfl | exact difs_at' h9zz 25 rfl | exact difs_at' h9zz 26 rfl | exact difs_at' h9zz 27 rfl | exact difs_at' h9zz 28 rfl | exact difs_at' h9zz 29 rfl | exact difs_at' h9zz 30 rfl | exact difs_at' h9zz 31 rfl | exact difs_at' h9zz 32 rfl | exact difs_at' h9zz 33 rfl | exact difs_at' h9zz 34 rfl | exact difs_at' h9zz 35 rfl | exact difs_at' h9zz 36 rfl | exact difs_at' h9zz 37 rfl | exact difs_at' h9zz 38 rfl | exact difs_at' h9zz 39 rfl))
  k_with "my ctl" => (first | with_reducible exact ct_all | with_reducible exact ct_left | with_reducible exact ct_right | with_reducible exact ct_nil | with_reducible exact ct_one | ((with_reducible refine ct_keep ?_); k_extra "my ctl") | ((with_reducible refine ct_skip ?_); k_extra "my ctl"))
  k_with "my o3l" => (first | with_reducible exact o3_id | with_reducible exact o3_nil | ((with_reducible refine o3_keep ?_); k_extra "my o3l") | ((with_reducible refine o3_skip ?_); k_extra "my o3l"))
  k_with "my o3" => (first | with_reducible assumption | ((try simp only [List.cons_append, List.nil_append]); refine off3By (by with_reducible assumption) ?_; k_extra "my o3l") | (refine And.intro ⟨by k_ne, by k_ne, by k_ne⟩ ?_; k_extra "my o3"))
  k_with "my okl" => (first | with_reducible exact ok_id | with_reducible exact ok_left | with_reducible exact ok_right | with_reducible exact ok_nil | ((with_reducible refine ok_keep ?_); k_extra "my okl") | ((with_reducible refine ok_skip ?_); k_extra "my okl"))
  k_with "my offtail" => (first | with_reducible exact off_difs (by with_reducible assumption) | exact off_lt (by with_reducible assumption) | exact off_of (by with_reducible assumption) | exact off_all (by with_reducible assumption) | exact off_left (by with_reducible assumption) | exact off_right (by with_reducible assumption) | exact off_lt (all_up (by with_reducible assumption)) | exact off_lt (all_up (all_up (by with_reducible assumption))) | exact off_lt (all_up (all_up (all_up (by with_reducible assumption)))) | exact off_lt (all_up (all_up (all_up (all_up (by with_reducible assumption))))) | exact off_lt (all_up (all_up (all_up (all_up (all_up (by with_reducible assumption)))))) | exact off_lt (all_up (all_up (all_up (all_up (all_up (all_up (by with_reducible assumption))))))) | exact off_lt (And.right (by with_reducible assumption)) | exact And.right (by with_reducible assumption) | exact off_lt (And.right (And.right (by with_reducible assumption))) | exact And.right (And.right (by with_reducible assumption)) | exact off_lt (And.right (And.right (And.right (by with_reducible assumption)))) | exact And.right (And.right (And.right (by with_reducible assumption))) | exact off_lt (And.right (And.right (And.right (And.right (by with_reducible assumption))))) | exact And.right (And.right (And.right (And.right (by with_reducible assumption)))) | exact off_lt (And.right (And.right (And.right (And.right (And.right (by with_reducible assumption)))))) | exact And.right (And.right (And.right (And.right (And.right (by with_reducible assumption))))) | exact off_lt (And.right (And.right (And.right (And.right (And.right (And.right (by with_reducible assumption))))))) | exact And.right (And.right (And.right (And.right (And.right (And.right (by with_reducible assumption)))))) | exact off_lt (And.right (And.right (And.right (And.right (And.right (And.right (And.right (by with_reducible assumption)))))))) | exact And.right (And.right (And.right (And.right (And.right (And.right (And.right (by with_reducible assumption))))))) | exact off_lt (And.right (And.right (And.right (And.right (And.right (And.right (And.right (And.right (by with_reducible assumption))))))))) | exact And.right (And.right (And.right (And.right (And.right (And.right (And.right (And.right (by with_reducible assumption)))))))) | exact off_lt (And.right (And.right (And.right (And.right (And.right (And.right (And.right (And.right (And.right (by with_reducible assumption)))))))))) | exact And.right (And.right (And.right (And.right (And.right (And.right (And.right (And.right (And.right (by with_reducible assumption))))))))) | exact off_lt (And.right (And.right (And.right (And.right (And.right (And.right (And.right (And.right (And.right (And.right (by with_reducible assumption))))))))))) | exact And.right (And.right (And.right (And.right (And.right (And.right (And.right (And.right (And.right (And.right (by with_reducible assumption)))))))))) | exact off_lt (And.right (And.right (And.right (And.right (And.right (And.right (And.right (And.right (And.right (And.right (And.right (by with_reducible assumption)))))))))))) | exact And.right (And.right (And.right (And.right (And.right (And.right (And.right (And.right (And.right (And.right (And.right (by with_reducible assumption))))))))))) | exact off_lt (And.right (And.right (And.right (And.right (And.right (And.right (And.right (And.right (And.right (And.right (And.right (And.right (by with_reducible assumption))))))))))))) | exact And.right (And.right (And.right (And.right (And.right (And.right (And.right (And.right (And.right (And.right (And.right (And.right (by with_reducible assumption)))))))))))) | exact off_lt (And.right (And.right (And.right (And.right (And.right (And.right (And.right (And.right (And.right (And.right (And.right (And.right (And.right (by with_reducible assumption)))))))))))))) | exact And.right (And.right (And.right (And.right (And.right (And.right (And.right (And.right (And.right (And.right (And.right (And.right (And.right (by with_reducible assumption))))))))))))) | exact off_lt (And.right (And.right (And.right (And.right (And.right (And.right (And.right (And.right (And.right (And.right (And.right (And.right (And.right (And.right (by with_reducible assumption))))))))))))))) | exact And.right (And.right (And.right (And.right (And.right (And.right (And.right (And.right (And.right (And.right (And.right (And.right (And.right (And.right (by with_reducible assumption)))))))))))))))
  k_with "my off1" => (first | exact True.intro | with_reducible assumption | exact off_difs (by with_reducible assumption) | (refine offBy (by with_reducible assumption) ?_; k_extra "my okl") | (refine offByC (by with_reducible assumption) ?_; k_extra "my ctl") | (refine And.intro ?_ ?_; (k_extra "my ne"); k_extra "my off1") | k_extra "my offtail")
  k_with "my above" => (first | exact above0 | (simp only [List.nil_append, List.cons_append]; k_extra "my above") | (refine aboveC ?_ ?_; (k_extra "my off1"); (k_extra "my above")))
  k_with "my need" => (first | exact List.forall_mem_nil _ | (refine' List.forall_mem_cons.mpr ⟨(by k_mem), (by k_extra "my need")⟩))
  k_with "my split" => (skip)
  k_with "my @call builtin:list.pop" => ((k_here; k_dflt (refine' pop0 (by k_asm) (by k_asm) (by k_upd) (by first | assumption | (simp only [List.length_cons] at *; omega)) ?_; k_whole); intro h'zz F'zz N'zz; (try dsimp only [List.nil_append, List.cons_append] at N'zz)))
  k_with "my len" => (((try dsimp only); (try simp only [rjust_len, ljust_len, Str.length_append, len_space, len_nil, len_dot]); omega))
  k_with "my @binaryOp Add str str" => ((k_here; (with_reducible show wpAny _ _ (binaryOp Operator.Add (Value.str _ _) (Value.str _ _)) _ _ _); refine add_ (by k_extra "my len") ?_; intro _ _))
  k_with "my strs" => (first | with_reducible assumption | exact StrsAre.nil | (refine' StrsAre.cons _ _ (by k_extra "my strs")))
  k_with "my @call builtin:str.join" => ((k_here; (with_reducible show wpAny _ _ (call (Value.builtin "str.join") [Value.str _ _, Value.ref _]) _ _ _); k_dflt (refine' k_join (by k_asm) (by k_mem) (by (with_unfolding_all k_extra "my strs")) (by k_extra "my each") (by exact Nat.le_of_ble_eq_true rfl) ?_; k_whole; intro _ _)))
  k_with "my tlen" => (first | decide | exact Nat.le_trans (num_len (by omega) (by omega)) (by decide) | k_extra "my len")
  k_with "my each" => (first | assumption | exact List.forall_mem_nil _ | (refine List.forall_mem_cons.mpr ⟨by k_extra "my tlen", ?_⟩; k_extra "my each"))
  k_with "my @compareOp In str str" => ((k_here; refine in_no (by assumption) ?_))
  k_with "my @call builtin:str.isprintable" => ((k_here; refine KXw.isprintable (b := true) (by assumption) ?_))
  k_with "my @WhlIf" => ((refine WhlIf.no (decide_eq_false (by rw [pow18]; omega)) ?_))
  k_with "my @subscriptTail Attribute" => ((k_here; k_dflt (refine kba_turn (value' := PySem.Expr.Name (PySem.Str.ofString "_") ⟨0, 0, 0, 0⟩) (fun _ => rfl) ?_)))
  k_with "my @subscriptTail Subscript" => ((k_here; k_dflt (refine kba_turn (value' := PySem.Expr.Name (PySem.Str.ofString "_") ⟨0, 0, 0, 0⟩) (fun _ => rfl) ?_)))
  k_with "my @execs cons Assign cons" => (first | (k_here; k_gentoks) | ((with_reducible refine wpAny_execs_cons ?_); try dsimp only))
  k_with "my @execs cons" => (first | (k_here; k_gentoks) | ((with_reducible refine wpAny_execs_cons ?_); try dsimp only))
  k_with "my @exec Assign" => ((k_here; (with_reducible show wpAny _ _ (exec (PySem.Stmt.Assign [PySem.Expr.Name _ _] _ _) _) _ _ _); k_dflt (refine wpAny_Assign_Name ?_)))
  k_with "my @exec While" => ((k_here; k_dflt (refine whl_start 100 ?_)))
  k_with "my pull" => (first | exact Pull.head | (refine' Pull.tail (by k_extra "my pull")))
  k_with "my @call ref" => ((k_here; (with_reducible show wpAny _ _ (call (Value.ref 66) _ _) _ _ _); k_dflt (refine' Tell.useQ (by k_asm) (by k_asm) (by k_asm) (by k_asm) (by k_asm) (by first | exact rfl | assumption) (by k_extra "my need") (by exact Nat.le_of_ble_eq_true rfl) (by exact Nat.le_of_ble_eq_true rfl) (whole_ _ _ _ (by omega) (by omega)) ?_; k_whole; intro tkzz h'zz tk'zz F'zz N'zz l1zz; (try simp only [List.nil_append, List.cons_append] at N'zz); clear l1zz; (try dsimp only); (try k_sweep))))
  k_with "my @call ref" => ((k_here; (with_reducible show wpAny _ _ (call (Value.ref 377) _ _) _ _ _); k_dflt (refine' Tell.useQ (by k_asm) (by k_asm) (by k_asm) (by k_asm) (by k_asm) (by first | exact rfl | assumption) (by k_extra "my need") (by exact Nat.le_of_ble_eq_true rfl) (by exact Nat.le_of_ble_eq_true rfl) (padded_ _ _ _ _ _ (by omega) (by omega) (by k_extra "my len")) ?_; k_whole; intro tkzz h'zz tk'zz F'zz N'zz l1zz; (try simp only [List.nil_append, List.cons_append] at N'zz); clear l1zz; (try dsimp only); (try k_sweep))))
  k_with "my @call ref" => ((k_here; (with_reducible show wpAny _ _ (call (Value.ref 243) _ _) _ _ _); k_dflt (refine' Tell.useQ (by k_asm) (by k_asm) (by k_asm) (by k_asm) (by k_asm) (by first | exact rfl | assumption) (by k_extra "my need") (by exact Nat.le_of_ble_eq_true rfl) (by exact Nat.le_of_ble_eq_true rfl) (encode_ _ _ _ (by first | assumption | decide +kernel) (by first | assumption | decide +kernel) (by first | assumption | decide +kernel)) ?_; k_whole; intro tkzz h'zz tk'zz F'zz N'zz l1zz; (try simp only [List.nil_append, List.cons_append] at N'zz); clear l1zz; (try dsimp only); (try k_sweep))))
  k_with "my @call ref" => ((k_here; (with_reducible show wpAny _ _ (call (Value.ref 278) _ _) _ _ _); k_dflt (refine' Tell.useQ (by k_asm) (by k_asm) (by k_asm) (by k_asm) (by k_asm) (by first | exact rfl | assumption) (by k_extra "my need") (by exact Nat.le_of_ble_eq_true rfl) (by exact Nat.le_of_ble_eq_true rfl) (widest2 _ _ _ _ _ _ _ (by k_extra "my len") (by k_extra "my len")) ?_; k_whole; intro tkzz h'zz tk'zz F'zz N'zz l1zz; (try simp only [List.nil_append, List.cons_append] at N'zz); clear l1zz; (try dsimp only); (try k_sweep))))
  k_with "my @call ref" => ((k_here; (with_reducible show wpAny _ _ (call (Value.ref 278) _ _) _ _ _); k_dflt (refine' Tell.useQ (by k_asm) (by k_asm) (by k_asm) (by k_asm) (by k_asm) (by first | exact rfl | assumption) (by k_extra "my need") (by exact Nat.le_of_ble_eq_true rfl) (by exact Nat.le_of_ble_eq_true rfl) (widest1 _ _ _ _ _ (by k_extra "my len")) ?_; k_whole; intro tkzz h'zz tk'zz F'zz N'zz l1zz; (try simp only [List.nil_append, List.cons_append] at N'zz); clear l1zz; (try dsimp only); (try k_sweep))))
  k_with "my @call ref" => ((k_here; (with_reducible show wpAny _ _ (call (Value.ref 199) [_, _, _] _) _ _ _); k_dflt (refine' Tell.useQ (by k_asm) (by k_asm) (by k_asm) (by k_asm) (by k_asm) (by first | exact rfl | assumption) (by k_extra "my need") (by exact Nat.le_of_ble_eq_true rfl) (by exact Nat.le_of_ble_eq_true rfl) (vector3 _ _ _ _) ?_; k_whole; intro xzz dxzz t1zz t2zz t3zz t4zz t5zz hxzz h'zz tk'zz F'zz N'zz l1zz; (try simp only [List.nil_append, List.cons_append] at N'zz); (have l2zz := difs_of (below2 l1zz).1; have l3zz := difs_of (below2 l1zz).2; clear l1zz; (try simp only [List.nil_append, List.cons_append] at l2zz l3zz); skip); (try dsimp only); (try k_sweep))))
  k_with "my @call ref" => ((k_here; (with_reducible show wpAny _ _ (call (Value.ref 199) [_, _] _) _ _ _); k_dflt (refine' Tell.useQ (by k_asm) (by k_asm) (by k_asm) (by k_asm) (by k_asm) (by first | exact rfl | assumption) (by k_extra "my need") (by exact Nat.le_of_ble_eq_true rfl) (by exact Nat.le_of_ble_eq_true rfl) (vector2 _ _ _) ?_; k_whole; intro xzz dxzz t1zz t2zz t3zz t4zz t5zz hxzz h'zz tk'zz F'zz N'zz l1zz; (try simp only [List.nil_append, List.cons_append] at N'zz); (have l2zz := difs_of (below2 l1zz).1; have l3zz := difs_of (below2 l1zz).2; clear l1zz; (try simp only [List.nil_append, List.cons_append] at l2zz l3zz); skip); (try dsimp only); (try k_sweep))))
  k_with "my @call ref" => ((k_here; (with_reducible show wpAny _ _ (call (Value.ref 439) [_, _] _) _ _ _); k_dflt (refine' Tell.use2 (by k_asm) (by k_asm) (by k_asm) (by (refine' pull1 (by k_asm) (by k_extra "my pull"))) (by k_asm) (by first | exact rfl | assumption) (by (refine mt1 ?_; k_all)) (by exact Nat.le_of_ble_eq_true rfl) (by exact Nat.le_of_ble_eq_true rfl) (plum_ _ _ _ _ _ _ _ (by assumption) (by assumption) (by omega) (by omega)) ?_; k_whole; intro tkzz rzz vs'zz ns'zz n'zz hi'zz hl'zz h0zz h1zz h'zz tk'zz F'zz N'zz l1zz; (try simp only [List.nil_append, List.cons_append] at N'zz); clear l1zz; (try dsimp only); (try k_sweep))))
  k_with "my @call ref" => ((k_here; (with_reducible show wpAny _ _ (call (Value.ref 265) _ _) _ _ _); k_dflt (refine' Tell.useQ (by k_asm) (by k_asm) (by k_asm) (by k_asm) (by k_asm) (by first | exact rfl | assumption) (by k_extra "my need") (by exact Nat.le_of_ble_eq_true rfl) (by exact Nat.le_of_ble_eq_true rfl) (fmt_int _ _ _ _ _ (by omega) (by omega)) ?_; k_whole; intro tkzz h'zz tk'zz F'zz N'zz l1zz; (try simp only [List.nil_append, List.cons_append] at N'zz); clear l1zz; (try dsimp only); (try k_sweep))))
  k_with "my @call ref" => ((k_here; (with_reducible show wpAny _ _ (call (Value.ref 265) _ _) _ _ _); k_dflt (refine' Tell.useQ (by k_asm) (by k_asm) (by k_asm) (by k_asm) (by k_asm) (by first | exact rfl | assumption) (by k_extra "my need") (by exact Nat.le_of_ble_eq_true rfl) (by exact Nat.le_of_ble_eq_true rfl) (fmt_str _ _ _ _ _ (by first | assumption | decide +kernel) (by first | assumption | decide +kernel) (by first | assumption | decide +kernel)) ?_; k_whole; intro tkzz h'zz tk'zz F'zz N'zz l1zz; (try simp only [List.nil_append, List.cons_append] at N'zz); clear l1zz; (try dsimp only); (try k_sweep))))
  k_with "my @call ref" => ((k_here; (with_reducible show wpAny _ _ (call (Value.ref 231) _ _) _ _ _); k_dflt (refine' Tell.useQ (by k_asm) (by k_asm) (by k_asm) (by k_asm) (by k_asm) (by first | exact rfl | assumption) (by k_extra "my need") (by exact Nat.le_of_ble_eq_true rfl) (by exact Nat.le_of_ble_eq_true rfl) (grown_ _ _ _ _ _ (by omega) (by omega) (by k_extra "my len")) ?_; k_whole; intro tkzz h'zz tk'zz F'zz N'zz l1zz; (try simp only [List.nil_append, List.cons_append] at N'zz); clear l1zz; (try dsimp only); (try k_sweep))))
  k_with "my comp" => ((k_here; k_dflt (refine LCg.ListComp_U (F₀ := by k_asm) (by with_unfolding_all rfl) (by decide) (by rfl) (by decide) (by rfl) ?_)))
  k_with "my o3c" => (((try simp only [List.cons_append, List.nil_append]); refine off3By (by with_reducible assumption) ?_; k_extra "my o3l"))
  k_with "my offs" => (first | exact True.intro | k_extra "my o3c" | (k_whole; refine And.intro ⟨by k_ne, by k_ne, by k_ne⟩ ?_; k_extra "my offs") | assumption)
  k_with "my list" => (exact News.isList (by k_asm) (by k_mem))
  k_with "my slice" => ((k_here; (with_reducible show wpAny _ _ (subscriptTail _ (PySem.Expr.Slice _ _ none _) (Value.ref _) (Value.ref _)) _ _ _); k_dflt (refine' kms_slice_lit (by k_asm) (by k_asm) (by k_extra "my list") (by kmk_part) (by kmk_part) (by first | exact pick_upto (by omega) | exact pick_run (by omega) (by omega) (by omega)) ?_ (by with_unfolding_all rfl) (by kmk_pure) (by (rw [List.size_toArray, sizeLine_eq]; omega)); intro D'zz h'zz F'zz N'zz l1zz; (try k_lt l1zz); (try k_sweep))))
  k_with "my len list" => ((k_here; (with_reducible show wpAny _ _ (call (Value.builtin "len") [Value.ref _]) _ _ _); k_dflt (refine' kst_len (by k_asm) (by k_mem) (by rfl) (by omega) ?_; k_whole)))
  k_with "my mul list" => ((k_here; (with_reducible show wpAny _ _ (binaryOp Operator.Mult (Value.ref _) (Value.int _ _)) _ _ _); k_dflt (refine' KMa.mul (by k_asm) (by k_asm) (by k_extra "my list") (by omega) (by omega) (by (simp only [List.length_cons, List.length_nil]; omega)) (by first | exact flat1 _ _ | rfl) ?_; k_whole; intro D'zz h'zz F'zz N'zz l1zz; (try k_lt l1zz); (try k_sweep))))
  k_with "my add list" => ((k_here; (with_reducible show wpAny _ _ (binaryOp _ (Value.ref _) (Value.ref _)) _ _ _); k_dflt (refine' kmk_add_lit (by k_asm) (by k_asm) (by k_extra "my list") (by k_extra "my list") (by rfl) ?_ (by (rw [sizeLine_eq]; (try simp only [List.toList_toArray, List.length_take, List.length_append, List.length_replicate, List.length_cons, List.length_nil]); omega)); intro D'zz h'zz F'zz N'zz l1zz; (try k_lt l1zz); (try k_sweep))))
  k_with "my @LPost" => ((dsimp only [LPost]))
  k_with "my tailmem" => (first | assumption | exact List.Mem.head _ | (refine List.Mem.tail _ ?_; k_extra "my tailmem") | (refine List.mem_append.mpr (Or.inl ?_); k_extra "my tailmem") | (refine List.mem_append.mpr (Or.inr ?_); k_extra "my tailmem"))
  k_with "my sub" => (first | exact List.forall_mem_nil _ | (refine List.forall_mem_cons.mpr ⟨by k_extra "my tailmem", ?_⟩; k_extra "my sub") | (intro p9zz h9zz; k_extra "my tailmem"))
  k_with "my off" => (first | exact List.forall_mem_nil _ | (refine List.forall_mem_cons.mpr ⟨by first | assumption | omega, ?_⟩; k_extra "my off") | assumption | exact ne_of_all (by assumption))
  k_with "my kept" => (first | exact List.forall_mem_nil _ | (refine List.forall_mem_cons.mpr ⟨by with_unfolding_all rfl, ?_⟩; k_extra "my kept"))
  k_with "my for" => ((k_here; (rename Fr _ _ _ _ => lF'zz); (with_unfolding_all refine' For_invVF lF'zz (by exact rfl) (by exact rfl) ?_; k_whole)))
  k_with "my @eval ListComp" => ((k_extra "my comp"))
  k_with "my @CompSrc" => ((refine to_held ?_))
  k_with "my @CompEnd" => ((refine to_held ?_))
  k_with "my @pyIter ref" => ((k_of "item" => refine to_held ?_))
  k_with "my @call ref" => ((k_here; (with_reducible show wpAny _ _ (call (Value.ref 271) _ _) _ _ _); k_dflt (refine' Tell.useQ (by k_asm) (by k_asm) (by k_asm) (by k_asm) (by k_asm) (by first | exact rfl | assumption) (by k_extra "my need") (by exact Nat.le_of_ble_eq_true rfl) (by exact Nat.le_of_ble_eq_true rfl) (items_str _ _ _ _ _ _ _ _ _ _ _ _ _ _ _ (by assumption) (by assumption) (by first | assumption | omega)) ?_; k_whole; intro bzz uszz huszz h'zz tk'zz F'zz N'zz l1zz; (try simp only [List.nil_append, List.cons_append] at N'zz); (have l2zz := difs_of (below1 l1zz); clear l1zz; (try simp only [List.nil_append, List.cons_append] at l2zz)); (try dsimp only); (try k_sweep))))
  k_with "my @call ref" => ((k_here; (with_reducible show wpAny _ _ (call (Value.ref 271) _ _) _ _ _); k_dflt (refine' Tell.useQ (by k_asm) (by k_asm) (by k_asm) (by k_asm) (by k_asm) (by first | exact rfl | assumption) (by k_extra "my need") (by exact Nat.le_of_ble_eq_true rfl) (by exact Nat.le_of_ble_eq_true rfl) (items_int _ _ _ _ _ _ _ _ _ _ _ _ _ _ _ (by assumption) (by assumption) (by assumption) (by first | assumption | omega)) ?_; k_whole; intro bzz uszz huszz h'zz tk'zz F'zz N'zz l1zz; (try simp only [List.nil_append, List.cons_append] at N'zz); (have l2zz := difs_of (below1 l1zz); clear l1zz; (try simp only [List.nil_append, List.cons_append] at l2zz)); (try dsimp only); (try k_sweep))))
  k_with "my @subscriptTail Name Slice ref ref" => ((k_extra "my slice"))
  k_with "my @call builtin:len" => ((k_extra "my len list"))
  k_with "my @binaryOp Mult ref int" => ((k_extra "my mul list"))
  k_with "my @binaryOp Add ref ref" => ((k_extra "my add list"))
  k_with "my @call ref" => ((k_here; (with_reducible show wpAny _ _ (call (Value.ref 412) _ _) _ _ _); k_dflt (refine' Tell.useQ (by k_asm) (by k_asm) (by k_asm) (by k_asm) (by k_asm) (by first | exact rfl | assumption) (by k_extra "my need") (by exact Nat.le_of_ble_eq_true rfl) (by exact Nat.le_of_ble_eq_true rfl) (filled_int _ _ _ _ _ _ _ _ _ _ _ _ _ _ _ _ (by first | assumption | omega) (by assumption) (by first | assumption | ((try simp only [List.length_map]); omega))) ?_; k_whole; intro bzz us'zz n'zz huszz h'zz tk'zz F'zz N'zz l1zz; (try simp only [List.nil_append, List.cons_append] at N'zz); (have l2zz := difs_of (below1 l1zz); clear l1zz; (try simp only [List.nil_append, List.cons_append] at l2zz)); (try dsimp only); (try k_sweep))))
  k_with "my @call ref" => ((k_here; (with_reducible show wpAny _ _ (call (Value.ref 412) _ _) _ _ _); k_dflt (refine' Tell.useQ (by k_asm) (by k_asm) (by k_asm) (by k_asm) (by k_asm) (by first | exact rfl | assumption) (by k_extra "my need") (by exact Nat.le_of_ble_eq_true rfl) (by exact Nat.le_of_ble_eq_true rfl) (filled_str _ _ _ _ _ _ _ _ _ _ _ _ _ _ _ _ (by first | assumption | omega) (by assumption) (by first | assumption | ((try simp only [List.length_map]); omega))) ?_; k_whole; intro bzz us'zz n'zz huszz h'zz tk'zz F'zz N'zz l1zz; (try simp only [List.nil_append, List.cons_append] at N'zz); (have l2zz := difs_of (below1 l1zz); clear l1zz; (try simp only [List.nil_append, List.cons_append] at l2zz)); (try dsimp only); (try k_sweep))))
  k_with "my item" => ((k_here; (with_reducible show wpAny _ _ (subscriptTail _ _ (Value.ref _) (Value.int _ _)) _ _ _); k_dflt (refine' item_lit (by k_asm) (by k_mem) (by first | decide | omega) (by first | decide | omega) (by first | exact rfl | assumption) ?_ (by with_unfolding_all rfl); k_whole)))
  k_with "my @subscriptTail Name Constant ref int" => ((k_extra "my item"))
  k_with "my @call type:str" => ((k_here; (with_reducible show wpAny _ _ (call (Value.type "str") [Value.int _ _]) _ _ _); refine str_small (by omega) (by omega) ?_))
  k_with "my @GrowPost" => ((dsimp only [GrowPost]))
  k_with "my @getMethod ref" => ((k_here; (with_reducible show wpAny _ _ (getMethod (Value.ref _) (Str.ofString "get") _) _ _ _); k_dflt (refine kdg_method (knd := PySem.strKind _ _) (by k_asm) (by k_mem) (by k_asm) ?_)))
  k_with "my @call builtin:dict.get" => ((k_here; k_dflt (first | refine kdg_get1 (knd := PySem.strKind _ _) (by k_asm) (by k_mem) (by k_asm) (by k_asm) (strKind_is _ _ _ _) (some _) (by rfl) ?_ | refine kdg_get1 (knd := PySem.strKind _ _) (by k_asm) (by k_mem) (by k_asm) (by k_asm) (strKind_is _ _ _ _) none (by rfl) ?_); (try dsimp only [Option.getD])))
  k_with "my @compareOp NotIn str ref" => ((k_here; k_dflt (first | refine kdg_notin (knd := PySem.strKind _ _) (by k_asm) (by k_mem) (by k_asm) (by k_asm) (strKind_is _ _ _ _) true (by rfl) ?_ | refine kdg_notin (knd := PySem.strKind _ _) (by k_asm) (by k_mem) (by k_asm) (by k_asm) (strKind_is _ _ _ _) false (by rfl) ?_); (try dsimp only [Bool.not_true, Bool.not_false])))
  k_with "my @call builtin:list.append" => ((k_here; (with_reducible show wpAny _ _ (call (Value.builtin "list.append") [Value.ref _, _]) _ _ _); k_dflt (refine' append_K (by k_asm) (by k_asm) (by k_upd) ?_ (by (rw [List.size_toArray, sizeLine_eq]; (try simp only [List.length_append, List.length_map, List.length_cons, List.length_nil]); omega)); k_whole; intro h'zz F'zz N'zz; (try simp only [List.toList_toArray] at N'zz); (try k_sweep))))
  k_with "my @subscriptTail Name Name ref int" => ((k_extra "my item"))
  k_with "my @call ref" => ((k_here; (with_reducible show wpAny _ _ (call (Value.ref 356) _ _) _ _ _); k_dflt (refine' Tell.useQ (by k_asm) (by k_asm) (by k_asm) (by k_asm) (by k_asm) (by first | exact rfl | assumption) (by k_extra "my need") (by exact Nat.le_of_ble_eq_true rfl) (by exact Nat.le_of_ble_eq_true rfl) (lroom_ _ _ _ _ _ _ _ _ _ _ _ _ _ _ _ _ _ (by first | assumption | exact hid_of (by assumption)) (by assumption)) ?_; k_whole; intro tkzz h'zz tk'zz F'zz N'zz l1zz; (try simp only [List.nil_append, List.cons_append] at N'zz); clear l1zz; (try dsimp only); (try k_sweep))))
  k_with "my @call ref" => ((k_here; (with_reducible show wpAny _ _ (call (Value.ref 349) _ _) _ _ _); k_dflt (refine' Tell.useQ (by k_asm) (by k_asm) (by k_asm) (by k_asm) (by k_asm) (by first | exact rfl | assumption) (by k_extra "my need") (by exact Nat.le_of_ble_eq_true rfl) (by exact Nat.le_of_ble_eq_true rfl) (roff_ _ _ _ _ _ _ _ _ _ _ _ _ _ _ ) ?_; k_whole; intro tkzz h'zz tk'zz F'zz N'zz l1zz; (try simp only [List.nil_append, List.cons_append] at N'zz); clear l1zz; (try dsimp only); (try k_sweep))))
  k_with "my @call ref" => ((k_here; (with_reducible show wpAny _ _ (call (Value.ref 370) _ _) _ _ _); k_dflt (refine' Tell.useQ (by k_asm) (by k_asm) (by k_asm) (by k_asm) (by k_asm) (by first | exact rfl | assumption) (by k_extra "my need") (by exact Nat.le_of_ble_eq_true rfl) (by exact Nat.le_of_ble_eq_true rfl) (chead_ _ _ _ _ _ _ _ _ _ _ _ _ _ _ _ _ _ _ _ _ (by omega) (by omega) (by assumption)) ?_; k_whole; intro tkzz h'zz tk'zz F'zz N'zz l1zz; (try simp only [List.nil_append, List.cons_append] at N'zz); clear l1zz; (try dsimp only); (try k_sweep))))
  k_with "my @pyIter ref" => ((k_of "place" => refine to_held ?_))
  k_with "my @pyIter ref" => ((k_of "row" => refine to_held ?_))
  k_with "my @call builtin:str.join" => ((k_here; (with_reducible show wpAny _ _ (call (Value.builtin "str.join") [Value.str _ _, Value.ref _]) _ _ _); k_dflt (refine' k_join (by k_asm) (by k_mem) (by (with_unfolding_all assumption)) (by assumption) (by first | assumption | omega) ?_; k_whole; intro _ _)))
  k_with "my @call ref" => ((k_here; (with_reducible show wpAny _ _ (call (Value.ref 363) _ _) _ _ _); k_dflt (refine' Tell.useQ (by k_asm) (by k_asm) (by k_asm) (by k_asm) (by k_asm) (by first | exact rfl | assumption) (by k_extra "my need") (by exact Nat.le_of_ble_eq_true rfl) (by exact Nat.le_of_ble_eq_true rfl) (rlabel_ _ _ _ _ _ _ _ _ _ _ _ _ _ _ _ _ _ _ _ _ _ (by assumption) (by assumption) (by omega) (by omega) (by assumption) (by assumption)) ?_; k_whole; intro tkzz h'zz tk'zz F'zz N'zz l1zz; (try simp only [List.nil_append, List.cons_append] at N'zz); clear l1zz; (try dsimp only); (try k_sweep))))
  k_with "my item2" => ((k_here; (with_reducible show wpAny _ _ (subscriptTail _ _ (Value.ref _) (Value.int _ _)) _ _ _); k_dflt (refine' item_lit (by k_asm) (by k_extra "my tailmem") (by first | decide | omega) (by first | decide | omega) (by first | exact rfl | assumption) ?_ (by with_unfolding_all rfl); k_whole)))
  k_with "my @subscriptTail Name Name ref int" => (first | k_extra "my item" | k_extra "my item2")
  k_with "my @KswPost" => ((dsimp only [KswPost]))
  k_with "my @call ref" => ((k_here; (with_reducible show wpAny _ _ (call (Value.ref 278) _ _) _ _ _); k_dflt (refine' Tell.useQ (by k_asm) (by k_asm) (by k_asm) (by k_asm) (by k_asm) (by first | exact rfl | assumption) (by (refine List.forall_mem_cons.mpr ⟨?_, List.forall_mem_nil _⟩; k_extra "my tailmem")) (by exact Nat.le_of_ble_eq_true rfl) (by exact Nat.le_of_ble_eq_true rfl) (widest_any _ _ _ _ _ (by assumption) (by assumption) (by assumption)) ?_; k_whole; intro tkzz h'zz tk'zz F'zz N'zz l1zz; (try simp only [List.nil_append, List.cons_append] at N'zz); clear l1zz; (try dsimp only); (try k_sweep))))
  k_with "my needg" => (first | exact List.forall_mem_nil _ | (refine' List.forall_mem_cons.mpr ⟨(by k_extra "my tailmem"), (by k_extra "my needg")⟩) | (intro p9zz h9zz; k_extra "my tailmem"))
  k_with "my @call ref" => ((k_here; (with_reducible show wpAny _ _ (call (Value.ref 384) _ _) _ _ _); k_dflt (refine' Tell.useR (by k_asm) (by k_asm) (by k_asm) (by k_asm) (by k_asm) (by first | exact rfl | assumption) (rows_ _ _ _ _ _ _ _ _ _ _ _ _ _ _ _ _ _ _ _ _ _ _ _ _ _ _ _ _ _ _ _ ?_ ?_ (by assumption) ?_ ?_ ?_ ?_ ?_ ?_ ?_ ?_ ?_) (by (simp only [List.cons_append, List.nil_append]; k_extra "my needg")) (by exact Nat.le_of_ble_eq_true rfl) (by exact Nat.le_of_ble_eq_true rfl) ?_; (try any_goals (refine id_prop ?_; first | assumption)); (try any_goals (refine id_prop ?_; first | assumption)); k_whole; intro bzz lineszz kkzz hlineszz hll1zz hll2zz h'zz tk'zz F'zz N'zz l1zz; (try simp only [List.nil_append, List.cons_append] at N'zz); (have l2zz := difs_of (below1 l1zz); clear l1zz; (try simp only [List.nil_append, List.cons_append] at l2zz)); (try dsimp only); (try k_sweep))))
  k_with "my @call builtin:list.extend" => ((k_here; (with_reducible show wpAny _ _ (call (Value.builtin _) [Value.ref _, Value.ref _]) _ _ _); k_dflt (refine' extend_ (by k_asm) (by k_asm) (by k_mem) (by first | assumption | omega) (by k_upd) (by first | omega | (simp only [List.length_nil]; omega)) (by omega) ?_); intro h'zz F'zz N'zz; (try simp only [List.nil_append] at N'zz); (try k_sweep)))
  k_with "my @call builtin:len" => ((k_here; (with_reducible show wpAny _ _ (call (Value.builtin "len") [Value.ref _]) _ _ _); k_dflt (refine' kst_len (by k_asm) (by k_mem) (by rfl) (by (have hqzz := hc_up (by assumption); omega)) ?_; k_whole)))
  k_with "my @pyIter ref" => ((k_of "place" => refine to_held ?_))
  k_with "my @WhlIf" => (first | (refine WhlIf.yes (decide_eq_true (by omega)) ?_) | (refine WhlIf.no (decide_eq_false (by omega)) ?_))
  k_with "my @exec While Compare" => ((refine to_held ?_))
  k_with "my @exec While BoolOp" => ((refine to_held ?_))
  k_with "my @exec While" => ((refine to_held ?_))
  k_with "my @KswEnd" => ((refine to_held ?_))
  k_with "my @getMethod ref" => ((k_here; (with_reducible show wpAny _ _ (getMethod (Value.ref _) (Str.ofString "get") _) _ _ _); k_dflt (refine kdg_method (knd := PySem.strKind _ _) (by k_asm) (by k_mem) (by k_asm) ?_)))
  k_with "my @call builtin:dict.get" => ((k_here; k_dflt (first | refine kdg_get1 (knd := PySem.strKind _ _) (by k_asm) (by k_mem) (by k_asm) (by k_asm) (strKind_is _ _ _ _) (some _) (by rfl) ?_ | refine kdg_get1 (knd := PySem.strKind _ _) (by k_asm) (by k_mem) (by k_asm) (by k_asm) (strKind_is _ _ _ _) none (by rfl) ?_); (try dsimp only [Option.getD])))
  k_with "my tailm" => (first | assumption | exact List.Mem.head _ | (refine List.Mem.tail _ ?_; k_extra "my tailm"))
  k_with "my o3b" => (((try simp only [List.cons_append, List.nil_append]); refine off3By (by with_reducible assumption) ?_; k_extra "my o3l"))
  k_with "my cend" => ((k_dflt (refine' cend (by k_asm) (by k_asm) (by k_extra "my pull") (by k_extra "my pull") (by k_extra "my pull") (by first | assumption | (k_whole; first | k_extra "my o3b" | (refine And.intro ⟨by k_ne, by k_ne, by k_ne⟩ ?_; k_extra "my o3b") | (refine And.intro ⟨by k_ne, by k_ne, by k_ne⟩ ?_; assumption) | (refine And.intro ⟨by k_ne, by k_ne, by k_ne⟩ ?_; refine And.intro ⟨by k_ne, by k_ne, by k_ne⟩ ?_; assumption))) (by first | exact True.intro | exact Or.inl (Or.inl (by assumption)) | exact Or.inl (by assumption) | exact Or.inr ⟨_, by k_mem, rfl, _, rfl⟩) ?_)))
  k_with "my @CompEnd" => ((k_extra "my cend"))
  k_with "my @call ref" => ((k_here; (with_reducible show wpAny _ _ (call (Value.ref 45) _ _) _ _ _); k_dflt (refine' Tell.useR (by k_asm) (by k_asm) (by k_asm) (by k_asm) (by k_asm) (by first | exact rfl | assumption) (dimn_ _ _ _ _ _ _ _ _ _ _ _ _ _ _ _ _ _ _ _ _ _ _ _ _ _ _ _ _ _ _ _ _ _ _ _ _ _ _ _ _ _ _ _ _ _ ?_ ?_ ?_ (by assumption)) (by k_extra "my need") (by exact Nat.le_of_ble_eq_true rfl) (by exact Nat.le_of_ble_eq_true rfl) ?_; (try any_goals (refine id_prop ?_; first | first | assumption | omega)); (try any_goals (refine id_prop ?_; first | first | assumption | omega)); k_whole; intro bzz c1zz c2zz k1zz k2zz h'zz tk'zz F'zz N'zz l1zz; (try simp only [List.nil_append, List.cons_append] at N'zz); (have l2zz := difs_of (below2 l1zz).1; have l3zz := difs_of (below2 l1zz).2; have l4zz := difs_of (below3 l1zz); clear l1zz; (try simp only [List.nil_append, List.cons_append] at l2zz l3zz l4zz)); (try dsimp only); (try k_sweep))))
  k_with "my @subscriptTail Name Name ref int" => ((k_extra "my item"))
  k_with "my @CompEnd" => ((refine to_held ?_))
  k_with "my @pyIter ref" => ((k_of "place" => refine to_held ?_))
  k_with "my @eval IfExp" => (((fail_if_success (rename Free => hfreezz)); (with_reducible show wpAny _ _ (eval (PySem.Expr.IfExp (PySem.Expr.Compare _ _ _ _) _ _ _) _) _ _ _); refine to_held ?_))
  k_with "my @eval IfExp" => (((fail_if_success (rename Free => hfreezz)); (with_reducible show wpAny _ _ (eval (PySem.Expr.IfExp (PySem.Expr.BoolOp _ _ _) _ _ _) _) _ _ _); refine to_held ?_))
  k_with "my @FinE" => (((unfold LCg.FinE); intro D'zz h'zz tk'zz F'zz N'zz o1'zz; (have l2zz := difs_of o1'zz; clear o1'zz; (try simp only [List.nil_append, List.cons_append] at l2zz)); (try simp only [List.nil_append, List.cons_append] at N'zz); (try dsimp only)))
  k_with "my @FinA" => (((unfold LCg.FinA); intro D'zz h'zz tk'zz F'zz N'zz o1'zz; (have l2zz := difs_of o1'zz; clear o1'zz; (try simp only [List.nil_append, List.cons_append] at l2zz)); (try simp only [List.nil_append, List.cons_append] at N'zz); (try dsimp only)))
  k_with "my slice2" => ((k_here; (with_reducible show wpAny _ _ (subscriptTail _ (PySem.Expr.Slice _ _ none _) (Value.ref _) (Value.ref _)) _ _ _); k_dflt (refine' kms_slice_lit (by k_asm) (by k_asm) (by k_extra "my list") (by kmk_part) (by kmk_part) (by first | exact pick_upto (by omega) | exact pick_run (by omega) (by omega) (by omega)) ?_ (by with_unfolding_all rfl) (by kmk_pure) (by (rw [List.size_toArray, sizeLine_eq]; (try simp only [List.toList_toArray, List.length_take, List.length_append, List.length_map, List.length_replicate, List.length_cons, List.length_nil]); omega)); intro D'zz h'zz F'zz N'zz l1zz; (try k_lt l1zz); (try k_sweep))))
  k_with "my @subscriptTail Name Slice ref ref" => ((k_extra "my slice2"))
  k_with "my difs" => (((rename Difs _ _ => q9zz); (simp only [List.nil_append, List.cons_append] at q9zz); (repeat (obtain ⟨_, q9zz⟩ := q9zz))))
  k_with "my subg" => (first | exact List.forall_mem_nil _ | (refine List.forall_mem_cons.mpr ⟨by k_extra "my tailmem", ?_⟩; k_extra "my subg") | (refine List.forall_mem_append.mpr ⟨?_, ?_⟩ <;> k_extra "my subg") | (intro p9zz h9zz; k_extra "my tailmem"))
  k_with "my @exec Assign cons ListComp" => ((k_here; with_reducible refine plainObj_wpAny_Assign_Attribute ?_ ?_; rotate_left; with_unfolding_all rfl))
  k_with "my @call ref" => ((k_here; (with_reducible show wpAny _ _ (call (Value.ref 333) _ _) _ _ _); k_dflt (refine' Tell.useQ (by k_asm) (by k_asm) (by k_asm) (by k_asm) (by k_asm) (by first | exact rfl | assumption) (by k_extra "my need") (by exact Nat.le_of_ble_eq_true rfl) (by exact Nat.le_of_ble_eq_true rfl) (layout_ _ _ _) ?_; k_whole; intro xzz dxzz t1zz t2zz t3zz t4zz t5zz t6zz t7zz hxzz h'zz tk'zz F'zz N'zz l1zz; (try simp only [List.nil_append, List.cons_append] at N'zz); (have l2zz := difs_of (below2 l1zz).1; have l3zz := difs_of (below2 l1zz).2; clear l1zz; (try simp only [List.nil_append, List.cons_append] at l2zz l3zz); skip); (try dsimp only); (try k_sweep))))
  k_with "my @call ref" => ((k_here; (with_reducible show wpAny _ _ (call (Value.ref 342) _ _) _ _ _); k_dflt (refine' Tell.useQ (by k_asm) (by k_asm) (by k_asm) (by k_asm) (by k_asm) (by first | exact rfl | assumption) (by k_extra "my need") (by exact Nat.le_of_ble_eq_true rfl) (by exact Nat.le_of_ble_eq_true rfl) (shown0 _) ?_; k_whole; intro  h'zz tk'zz F'zz N'zz l1zz; (try simp only [List.nil_append, List.cons_append] at N'zz); clear l1zz; (try dsimp only); (try k_sweep))))
  k_with "my @call ref" => ((k_here; (with_reducible show wpAny _ _ (call (Value.ref 342) _ _) _ _ _); k_dflt (refine' Tell.useQ (by k_asm) (by k_asm) (by k_asm) (by k_asm) (by k_asm) (by first | exact rfl | assumption) (by k_extra "my need") (by exact Nat.le_of_ble_eq_true rfl) (by exact Nat.le_of_ble_eq_true rfl) (shown1 _ _ _ _ _ (by assumption) (by assumption) (by first | assumption | omega)) ?_; k_whole; intro bzz uszz kzz huszz h'zz tk'zz F'zz N'zz l1zz; (try simp only [List.nil_append, List.cons_append] at N'zz); (have l2zz := difs_of (below1 l1zz); clear l1zz; (try simp only [List.nil_append, List.cons_append] at l2zz)); (try dsimp only); (try k_sweep))))
  k_with "my @call ref" => ((k_here; (with_reducible show wpAny _ _ (call (Value.ref 33) _ _) _ _ _); k_dflt (refine' Tell.useQ (by k_asm) (by k_asm) (by k_asm) (by k_asm) (by k_asm) (by first | exact rfl | assumption) (by k_extra "my need") (by exact Nat.le_of_ble_eq_true rfl) (by exact Nat.le_of_ble_eq_true rfl) (names0 _ _ _ _ _ _ _ _ _ _ _ _ _ _ (by assumption) (by assumption)) ?_; k_whole; intro  h'zz tk'zz F'zz N'zz l1zz; (try simp only [List.nil_append, List.cons_append] at N'zz); clear l1zz; (try dsimp only); (try k_sweep))))
  k_with "my @call ref" => ((k_here; (with_reducible show wpAny _ _ (call (Value.ref 33) _ _) _ _ _); k_dflt (refine' Tell.useR (by k_asm) (by k_asm) (by k_asm) (by k_asm) (by k_asm) (by first | exact rfl | assumption) (names1 _ _ _ _ _ _ _ _ _ _ _ _ _ _ _ _ _ _ _ _ _ _ _ _ _ ?_ ?_ (by assumption)) (by k_extra "my need") (by exact Nat.le_of_ble_eq_true rfl) (by exact Nat.le_of_ble_eq_true rfl) ?_; (try any_goals (refine id_prop ?_; first | first | assumption | omega)); (try any_goals (refine id_prop ?_; first | first | assumption | omega)); k_whole; intro bzz kzz h'zz tk'zz F'zz N'zz l1zz; (try simp only [List.nil_append, List.cons_append] at N'zz); (have l2zz := difs_of (below1 l1zz); clear l1zz; (try simp only [List.nil_append, List.cons_append] at l2zz)); (try dsimp only); (try k_sweep))))
  k_with "my @call ref" => ((k_here; (with_reducible show wpAny _ _ (call (Value.ref 419) _ _) _ _ _); k_dflt (refine' Tell.useR (by k_asm) (by k_asm) (by k_asm) (by k_asm) (by k_asm) (by first | exact rfl | assumption) (flabels_ _ _ _ _ _ _ _ _ _ _ _ _ _ _ _ _ _ _ _ _ _ _ _ _ _ _ ?_ ?_ ?_ (by assumption)) (by k_extra "my need") (by exact Nat.le_of_ble_eq_true rfl) (by exact Nat.le_of_ble_eq_true rfl) ?_; (try any_goals (refine id_prop ?_; first | first | assumption | omega)); (try any_goals (refine id_prop ?_; first | first | assumption | omega)); k_whole; intro bzz uszz kzz huszz hulzz h'zz tk'zz F'zz N'zz l1zz; (try simp only [List.nil_append, List.cons_append] at N'zz); (have l2zz := difs_of (below1 l1zz); clear l1zz; (try simp only [List.nil_append, List.cons_append] at l2zz)); (try dsimp only); (try k_sweep))))
  k_with "my @call ref" => ((k_here; (with_reducible show wpAny _ _ (call (Value.ref 391) _ _) _ _ _); k_dflt (refine' Tell.useR (by k_asm) (by k_asm) (by k_asm) (by k_asm) (by k_asm) (by first | exact rfl | assumption) (lrows_ _ _ _ _ _ _ _ _ _ _ _ _ _ _ _ _ _ _ _ _ _ _ _ _ _ _ ?_ ?_ (by assumption) ?_ ?_ ?_ ?_ ?_ ?_) (by (simp only [List.cons_append, List.nil_append]; k_extra "my needg")) (by exact Nat.le_of_ble_eq_true rfl) (by exact Nat.le_of_ble_eq_true rfl) ?_; (try any_goals (refine id_prop ?_; first | assumption)); (try any_goals (refine id_prop ?_; first | assumption)); k_whole; intro bzz lineszz kzz hlineszz h'zz tk'zz F'zz N'zz l1zz; (try simp only [List.nil_append, List.cons_append] at N'zz); (have l2zz := difs_of (below1 l1zz); clear l1zz; (try simp only [List.nil_append, List.cons_append] at l2zz)); (try dsimp only); (try k_sweep))))
  k_with "my @pyIter ref" => ((k_of "place" => refine to_held ?_))
  k_with "my @call ref" => ((k_here; (with_reducible show wpAny _ _ (call (Value.ref 405) _ _) _ _ _); refine to_held ?_))
  k_with "my @ite" => ((k_here; first | (refine ite_neg (by (simp only [beq_iff_eq]; (try (have hqzz := hc_both (by assumption))); omega)) ?_) | (refine ite_pos (by (simp only [beq_iff_eq]; omega)) ?_)))
  k_with "my @eval ListComp" => ((k_here; k_dflt (refine LCp.ListComp_P (F₀ := by k_asm) (by with_unfolding_all rfl) (by decide) (by rfl) (by decide) (by rfl) (by rfl) (by decide) ?_)))
  k_with "my @SrcLP" => ((refine to_held ?_))
  k_with "my @CompEnd" => ((refine to_held ?_))
  k_with "my @eval Call" => (((fail_if_success (rename Free => hfreezz)); (with_reducible show wpAny _ _ (eval (PySem.Expr.Call (PySem.Expr.Name (PySem.Str.ofString "shown_names") _) _ _ _) _) _ _ _); refine to_held ?_))
  k_with "my @exec If" => (((fail_if_success (rename Free => hfreezz)); (with_reducible show wpAny _ _ (exec (PySem.Stmt.If (PySem.Expr.Compare (PySem.Expr.Name (PySem.Str.ofString "names") _) _ _ _) _ _ _) _) _ _ _); refine to_held ?_))
  k_with "my @CompEnd" => ((rename HoldEnd => hmkzz; refine to_held ?_))
  k_with "my @exec If" => ((rename HoldIf => hmkzz; refine to_held ?_))
  k_with "my for" => ((k_here; (rename Fr _ _ _ _ => lF'zz); (with_unfolding_all refine' For_invVF lF'zz (by exact rfl) (by exact rfl) ?_; k_whole)))
  k_with "my @exec For Name Call cons nil" => ((k_extra "my for"))
  k_with "my @exec For Name Subscript cons nil" => ((k_extra "my for"))
  k_with "my @InvEndN" => ((k_dflt kst_close))
  k_with "my @pyIter ref" => ((k_of "hop" => refine to_held ?_))
  k_with "my @pyIter ref" => ((k_of "one" => k_state (fun pre tree => tree.length ≤ 8 * pre.length) "tree"))
  k_with "my fold" => k_fold
  k_with "my fold2" => k_fold
  trivial
theorem off_LJ : True := by
  w_top off
  trivial
-- part LJ
section
local macro_rules | `(tactic| k_qdec) => `(tactic| decide +kernel)
theorem ln_LJ1 : True := by
  k_with "my @call ref" => ((k_here; (with_reducible show wpAny _ _ (call (Value.ref 432) _ _) _ _ _); k_dflt (refine' TellK.useQ (by assumption) (by k_asm) (by k_asm) (by k_asm) (by k_asm) (by k_asm) (by first | exact rfl | assumption) (by k_extra "my need") (by exact Nat.le_of_ble_eq_true rfl) (by exact Nat.le_of_ble_eq_true rfl) (plums_ _ _ _ _ (by assumption) (by omega)) ?_; k_whole; intro bzz vs'zz ns'zz n'zz hi'zz hl'zz h'zz tk'zz F'zz N'zz l1zz; (try simp only [List.nil_append, List.cons_append] at N'zz); clear l1zz; (try dsimp only); (try k_sweep))))
  k_with "my @call ref" => ((k_here; (with_reducible show wpAny _ _ (call (Value.ref 439) [_, _] _) _ _ _); k_dflt (refine' Tell.use2 (by k_asm) (by k_asm) (by k_asm) (by (refine' pull1 (by k_asm) (by k_extra "my pull"))) (by k_asm) (by first | exact rfl | assumption) (by (refine mt1 ?_; k_all)) (by exact Nat.le_of_ble_eq_true rfl) (by exact Nat.le_of_ble_eq_true rfl) (plum_ _ _ _ _ _ _ _ (by assumption) (by assumption) (by omega) (by omega)) ?_; k_whole; intro tkzz rzz vs'zz ns'zz n'zz hi'zz hl'zz h0zz h1zz h'zz tk'zz F'zz N'zz l1zz; (try simp only [List.nil_append, List.cons_append] at N'zz); clear l1zz; (have hbndzz := bnd_of h0zz h1zz); clear h0zz h1zz; (try dsimp only); (try k_sweep))))
  k_with "my @pyIter ref" => ((k_of "at" => ((fail_if_success (rename NoHold => hnhzz)); refine to_held ?_)))
  k_with "my @pyIter ref" => ((k_of "head" => refine to_held ?_))
  k_with "my @call ref" => ((k_here; (with_reducible show wpAny _ _ (call (Value.ref 444) _ _) _ _ _); refine to_held ?_))
  k_with "my @subscriptTail List cons Name ref int" => ((k_here; (with_reducible show wpAny _ _ (subscriptTail _ _ (Value.ref _) (Value.int _ _)) _ _ _); k_dflt (refine' menu_at (by k_asm) (by k_mem) (by assumption) ?_ (by with_unfolding_all rfl); k_whole; intro _)))
  k_with "my @inplaceOp Add ref ref" => ((k_here; (with_reducible show wpAny _ _ (inplaceOp _ (Value.ref _) (Value.ref _)) _ _ _); k_dflt (refine' iadd_ (by k_asm) (by k_asm) (by k_mem) (by first | assumption | omega) (by k_upd) (by omega) (by omega) ?_); intro h'zz F'zz N'zz; (try k_sweep)))
  k_with "my @inplaceOp Add ref" => ((walk_at "inplaceOp Add ref ref"))
  k_with "my @eval ListComp" => ((k_extra "my comp"))
  k_with "my @subscriptTail List cons Slice ref ref" => ((k_here; k_dflt (refine kba_turn (value' := PySem.Expr.Name (PySem.Str.ofString "_") ⟨0, 0, 0, 0⟩) (fun _ => rfl) ?_)))
  k_with "my @subscriptTail Name Slice ref ref" => ((k_here; (with_reducible show wpAny _ _ (subscriptTail _ (PySem.Expr.Slice _ _ none _) (Value.ref _) (Value.ref _)) _ _ _); k_dflt (refine' kms_slice_lit (by k_asm) (by k_asm) (by k_extra "my list") (by kmk_part) (by kmk_part) (by first | exact pick_upto (by omega) | exact pick_run (by omega) (by omega) (by omega)) ?_ (by with_unfolding_all rfl) (by kmk_pure) (by (rw [List.size_toArray, sizeLine_eq]; (try simp only [List.toList_toArray, List.length_take, List.length_append, List.length_map, List.length_replicate, List.length_cons, List.length_nil]); omega)); intro D'zz h'zz F'zz N'zz l1zz; (try k_lt l1zz); (try k_sweep))))
  k_with "my @exec For Tuple Name cons nil" => ((k_here; (rename Fr _ _ _ _ => lF'zz); (with_unfolding_all refine' For_turns lF'zz ?_; k_whole)))
  k_with "my @pyIter ref" => ((k_here; (with_reducible show wpAny _ _ (pyIter (Value.ref _)) (fun it s₂ => TurnsAt _ _ _ _ _ _ _ _ _ it s₂) _ _); refine to_held ?_))
  k_with "my @getItem ref int" => ((k_here; (with_reducible show wpAny _ _ (getItem (Value.ref _) (Value.int _ _)) _ _ _); k_dflt (refine' get_ (by k_asm) (by k_mem) (by first | decide | omega) (by first | decide | omega) (by first | exact rfl | assumption) ?_; k_whole)))
  k_with "my @setItem ref int" => ((k_here; (with_reducible show wpAny _ _ (setItem (Value.ref _) (Value.int _ _) _) _ _ _); k_dflt (refine' set_ (by k_asm) (by k_asm) (by k_upd) (by first | decide | omega) (by first | decide | (simp only [List.length_set, List.length_cons, List.length_nil]; omega)) (by first | exact Nat.le_of_ble_eq_true rfl | (simp only [List.length_set, List.length_cons, List.length_nil]; omega)) ?_; k_whole); intro h'zz F'zz N'zz; (try k_sweep)))
  k_with "my @setItem ref int str" => ((walk_at "setItem ref int"))
  k_with "my @inplaceOp Add str str" => ((k_here; (with_reducible show wpAny _ _ (inplaceOp Operator.Add (Value.str _ _) (Value.str _ _)) _ _ _); refine inplace_add_ (by k_extra "my len") ?_; intro _ _))
  k_with "my @UnrEnd" => ((k_dflt (refine' unr_pull (by k_asm) (by k_asm) (by k_extra "my pull") (by k_extra "my off1") ?_)))
  k_with "my @call ref" => ((k_here; (with_reducible show wpAny _ _ (call (Value.ref 425) _ _) _ _ _); refine to_held ?_))
  k_with "my @compareOp Eq ref ref" => ((k_here; (with_reducible show wpAny _ _ (compareOp CmpOp.Eq (Value.ref _) (Value.ref _)) _ _ _); k_dflt (refine' eq_strs_same (by k_asm) (by k_mem) (by k_mem) (by assumption) (by assumption) (by units_room) ?_; k_whole)))
  trivial
theorem rot4 {h₀ h : Heap} {L : Addr} {q1 q2 : Addr × Obj} {g2 l : Led} (ex : Led) (N : News h₀ L h ((q1 :: q2 :: g2) ++ (ex ++ l))) : News h₀ L h (q1 :: q2 :: (ex ++ (g2 ++ l))) := drop_to N fun p hp => by
  simp only [List.mem_cons, List.mem_append, List.cons_append] at hp ⊢
  rcases hp with h | h | h | h | h
  · exact .inl h
  · exact .inr (.inl h)
  · exact .inr (.inr (.inr (.inl h)))
  · exact .inr (.inr (.inl h))
  · exact .inr (.inr (.inr (.inr h)))
theorem nm_three {h₀ h : Heap} {L a b c : Addr} {o1 o2 o3 : Obj} (_ : News h₀ L h [(a, o1), (b, o2), (c, o3)]) : ∃ a' b' c', a' = a ∧ b' = b ∧ c' = c := ⟨a, b, c, rfl, rfl, rfl⟩
theorem small3 {b : Int} (h : Bnd b 3) : Builtin.Range.small 0 (1 + b) 1 = true ∧ Builtin.Range.rangeSize 0 (1 + b) 1 = ((1 + b).toNat : Int) := small_bd (by have := h.1; omega) (by have := h.2; omega)
def nmOf (b : Bool) (j : Nat) : Str := if b = true then menu j else Str.ofString "NA"
theorem nmOf_len (b : Bool) (j : Nat) : (nmOf b j).length ≤ 4 := by
  cases b
  · exact (by decide : (Str.ofString "NA").length ≤ 4)
  · exact menu_len j
/-- print_frame's contract at the frame that the law builds -/
def FrameTell (w : World) (x dx dd ca rx rd rl : Addr) (t t1 t2 t3 t4 t5 r1 r2 r3 r4 r5 r6 : Tok) (od : Obj) (xvs us : List Value) (n1 n2 : Nat) (pcss : List (List (Str × List Str))) (r : Nat) (g : Led) : Prop :=
  Tell 500 500 w 425 [.ref x] [] ([(x, instObj 199 dx), (dx, vecD w.params t1 t2 t3 t4 t5 (.str (Str.ofString "list") t) (.ref ca) (.ref dd)), (dd, od), (ca, lst xvs n1), (rx, instObj 199 rd), (rd, vecD w.params r1 r2 r3 r4 r5 (.str (Str.ofString "integer") r6) (.ref rl) .none), (rl, lst us n2)] ++ g) []
    (fun R => ∀ b lines k, StrsAre lines (framed r pcss.flatten) → R (.ref b) [] [(b, lst lines k)])
/-- the frame with names or without: each way is walked for any Q', the rest once -/
theorem join_frame {prog : Program} {w : World} {A : Around} {tr : Sem Flow} {Q : Flow → Shared → Prop} {E : Value → Shared → Prop} {s : Shared} {h₀ : Heap} {L : Addr} {m : Str → Option Value}
    {x dx dd ca rx rd rl ta : Addr} {t t1 t2 t3 t4 t5 r1 r2 r3 r4 r5 r6 : Tok} {od oc1 oc2 oc3 : Obj} {cx cd cl : Addr} {xvs us pvs : List Value} {n1 n2 k2 : Nat} {g : Led} (pcss : List (List (Str × List Str))) (r : Nat)
    (_ : Fr h₀ L s.heap m)
    (_ : News h₀ L s.heap ((x, instObj 199 dx) :: (dx, vecD w.params t1 t2 t3 t4 t5 (.str (Str.ofString "list") t) (.ref ca) (.ref dd)) :: (rx, instObj 199 rd) :: (rd, vecD w.params r1 r2 r3 r4 r5 (.str (Str.ofString "integer") r6) (.ref rl) .none) :: (rl, lst us n2) :: (cx, oc1) :: (cd, oc2) :: (cl, oc3) :: (dd, od) :: (ta, lst pvs k2) :: (ca, lst xvs n1) :: g))
    (h1 : ∀ Q' : Flow → Shared → Prop, (∀ h' tk' od' ex, FrameTell w x dx dd ca rx rd rl t t1 t2 t3 t4 t5 r1 r2 r3 r4 r5 r6 od' xvs us n1 n2 pcss r (ex ++ g) → Fr h₀ L h' m →
        News h₀ L h' ((x, instObj 199 dx) :: (dx, vecD w.params t1 t2 t3 t4 t5 (.str (Str.ofString "list") t) (.ref ca) (.ref dd)) :: (rx, instObj 199 rd) :: (rd, vecD w.params r1 r2 r3 r4 r5 (.str (Str.ofString "integer") r6) (.ref rl) .none) :: (rl, lst us n2) :: (dd, od') :: (ta, lst pvs k2) :: (ca, lst xvs n1) :: (ex ++ g)) →
        Q' .next { s with heap := h', toks := tk' }) → wpAny (model prog w) A tr Q' E s)
    (h2 : ∀ h' tk' od' ex, FrameTell w x dx dd ca rx rd rl t t1 t2 t3 t4 t5 r1 r2 r3 r4 r5 r6 od' xvs us n1 n2 pcss r (ex ++ g) → Fr h₀ L h' m →
        News h₀ L h' ((x, instObj 199 dx) :: (dx, vecD w.params t1 t2 t3 t4 t5 (.str (Str.ofString "list") t) (.ref ca) (.ref dd)) :: (rx, instObj 199 rd) :: (rd, vecD w.params r1 r2 r3 r4 r5 (.str (Str.ofString "integer") r6) (.ref rl) .none) :: (rl, lst us n2) :: (dd, od') :: (ta, lst pvs k2) :: (ca, lst xvs n1) :: (ex ++ g)) →
        Q .next { s with heap := h', toks := tk' }) : wpAny (model prog w) A tr Q E s := h1 Q h2
theorem ln_LJ2 : True := by
  k_with "my @eval IfExp" => (((fail_if_success (rename NoHold => hnhzz)); refine to_held ?_))
  k_with "my @exec If" => (((fail_if_success (rename NoHold => hnhzz)); refine to_held ?_))
  trivial
theorem law_try : PySem.Challenge.rw_qd0173_01.Holds := hd (by
  k_go0
  all_goals try k_fold
  all_goals k_steps
  refine of_held ?_
  rename IsRange _ _ _ _ _ _ _ _ => lR
  rename News _ _ _ _ => lN
  rename Fr _ _ _ _ => lF
  rename Bnd _ 2 => b2
  rename Bnd _ 3 => b3
  rename Bnd _ 4 => b4
  rename IntsAre _ _ => lI
  rename _ ≤ 50 => lL
  obtain ⟨q2, rfl⟩ := nm_int b2.1
  obtain ⟨q3, rfl⟩ := nm_int b3.1
  obtain ⟨q4, rfl⟩ := nm_int b4.1
  have hr : Hid ((1 + q2) = 1 ∨ (1 + q2) = 2) := (by have := b2.1; have := b2.2; show _ ∨ _; omega)
  rename World => w
  have hn3 := nm_three lN
  obtain ⟨tr, ta, ca, rfl, rfl, rfl⟩ := hn3
  refine' ksR (σ := St) (1 + q3).toNat (StLed ca ta tr) (fun _ => [(Str.ofString "told_rows", .ref ta)]) [Str.ofString "v", Str.ofString "piece"] (StOk w (1 + q2) (nmOf (decide (q4 < 3))) ca ta tr) ⟨[], 0, [], 0, _, _, _, [], [], []⟩ rfl lR (small3 b3).1 (small3 b3).2 lF lN ?hk (st0 lI lL) ?turn ?done
  case hk => k_extra "my kept"
  case turn =>
    rintro i ti ⟨cvs, k1, pvs, k2, tvs, tns, tn, g, nms, pcss⟩ u h tk I oi hin hoff hok F1 N1
    try k_fold
    clear lF lN lI lL
    have hoI := difs_of (off_of hoff)
    simp only [StLed] at N1 hoI
    skip
    skip
    have hok2 := hok
    obtain ⟨a1, a2, a3, a4, a5, a6, a7, a8, a9⟩ := hok2
    dsimp only at a1 a2 a3 a4 a5 a6 a7 a8 a9
    have hi3 : i < 3 := by have := b3.2; have := b3.1; omega
    try k_fold
    k_steps
    refine of_held ?_
    rename Fr _ _ _ _ => lF2
    rename News _ _ _ _ => lN2
    refine join_str (nmOf (decide (q4 < 3)) i) lF2 lN2 ?j1 ?j2
    case j1 =>
      intro Q' hQ'
      have hnh : NoHold := trivial
      by_cases hb : q4 < 3
      · have hbd : decide (q4 < 3) = true := decide_eq_true hb
        clear hb
        have hnm : nmOf (decide (q4 < 3)) i = menu i := by rw [hbd]; rfl
        rw [hnm] at hQ'
        k_steps
        exact hQ' _ _ _ (by assumption) (drop_to (by assumption) (by k_extra "my subg"))
      · have hbd : decide (q4 < 3) = false := decide_eq_false hb
        clear hb
        have hnm : nmOf (decide (q4 < 3)) i = Str.ofString "NA" := by rw [hbd]; rfl
        rw [hnm] at hQ'
        k_steps
        exact hQ' _ _ _ (by assumption) (drop_to (by assumption) (by k_extra "my subg"))
    case j2 =>
      intro h3 tk3 t3 F3 N3
      clear lF2 lN2
      k_steps
      refine of_held ?_
      refine' Tell.use (lc_ _ _ _ _ _ _ _ _ _ hr a1 a2 (nmOf_len _ i)) ?k1 ?k2 ?k3 ?k4 ?k5 ?k6 ?k7 ?k8 ?k9 ?_
      case k1 => k_dflt k_asm
      case k2 => k_dflt k_asm
      case k3 => k_dflt k_asm
      case k4 =>
        k_dflt (refine' pull1 ?n1 ?n2; (case n1 => k_asm); (case n2 => k_extra "my pull"))
      case k5 => k_dflt k_asm
      case k6 => first | exact rfl | assumption
      case k7 => (refine mt1 ?_; k_dflt k_all)
      case k8 => with_unfolding_all exact Nat.le_of_ble_eq_true rfl
      case k9 => with_unfolding_all exact Nat.le_of_ble_eq_true rfl
      intro tp pl xa pv2 k3 k4 tvs2 tns2 tn2 need g2 pcs hI2 hL2 hP2 hS hF hpl h' tk' F' N' l1
      try k_fold
      have N2 := rot4 (g2 := need ++ g2) (l := g) [_, _, _, _] N'
      clear N'
      simp only [List.nil_append, List.cons_append] at N2
      have lb := difs_of (l1 (tp, _) (.head _))
      have lc := difs_of (l1 (pl, _) (.tail _ (.head _)))
      try simp only [List.nil_append, List.cons_append] at lb lc
      skip
      skip
      have oI : LCg.Off1 I (need ++ g2) := off_flip (o := oi) (fun q hq => l1 q (.tail _ (.tail _ hq))) (by simp only [List.nil_append, List.cons_append]; k_extra "my tailmem")
      have oa : LCg.Off1 ca (need ++ g2) := off_flip (o := lst cvs k1) (fun q hq => l1 q (.tail _ (.tail _ hq))) (by simp only [List.nil_append, List.cons_append]; k_extra "my tailmem")
      have ot : LCg.Off1 ta (need ++ g2) := off_flip (o := lst pvs k2) (fun q hq => l1 q (.tail _ (.tail _ hq))) (by simp only [List.nil_append, List.cons_append]; k_extra "my tailmem")
      have or : LCg.Off1 tr (need ++ g2) := off_flip (o := lst tvs2 tn2) (fun q hq => l1 q (.tail _ (.tail _ hq))) (by simp only [List.nil_append, List.cons_append]; k_extra "my tailmem")
      have oa2 : LCg.Off1 ca ((need ++ g2) ++ g) := off_app oa a7
      have oI2 : LCg.Off1 I ((need ++ g2) ++ g) := off_app oI (off_difs (difs_tail (difs_tail (difs_tail hoI))))
      have ot2 : LCg.Off1 ta ((need ++ g2) ++ g) := off_app ot a8
      clear l1
      have hfp := a3.fine
      have hp1 := hP2.length
      have hp2 : 1 ≤ pv2.length := by rw [hp1]; exact hF.1
      have hp3 : pv2.length ≤ 2 := by rw [hp1]; exact hF.2.1
      have hp4 : pvs.length ≤ 6 := by rw [a4.length]; have := hfp.2.1; omega
      have hp5 : cvs.length ≤ 3 := by omega
      clear hfp
      try k_fold
      k_steps
      rename News _ _ _ _ => lN
      simp only [List.push_toArray] at lN
      refine' ks_end ⟨cvs ++ [.ref xa], _, pvs ++ pv2, _, tvs2, tns2, tn2, (need ++ g2) ++ g, nms ++ [nmOf (decide (q4 < 3)) i], pcss ++ [pcs]⟩ ?FF lN ?SS ?ho ?hk ?hr (st_next hok hI2 hL2 hP2 hS hF oa ot or)
      case FF => assumption
      case SS => (simp only [StLed]; k_extra "my subg")
      case ho => (simp only [StLed]; exact off_mem (by k_extra "my off1"))
      case hk => k_extra "my kept"
      case hr =>
        intro z h1 h2 h3
        try k_fold
        have h4 := h2 _ (.head _)
        have h56 := stored2 h3
        obtain ⟨h5, h6⟩ := h56
        simp [kstB, h1, h4, h5, h6]
  case done =>
    rintro ⟨cvs, k1, pvs, k2, tvs, tns, tn, g, nms, pcss⟩ u h tk hok F1 N1
    try k_fold
    clear lF lN lI lL
    simp only [StLed] at N1
    obtain ⟨a1, a2, a3, a4, a5, a6, a7, a8, a9⟩ := hok
    dsimp only at a1 a2 a3 a4 a5 a6 a7 a8 a9 F1
    replace N1 := drop_at 0 N1
    simp only [List.eraseIdx_cons_zero] at N1
    have hcv := b3.1
    have hcv2 := b3.2
    have hHC : HC cvs.length := ⟨by omega, by omega⟩
    have hcv3 : HidP (cvs.length ≤ 3) := (by show _ ≤ _; omega)
    clear hcv hcv2 a1 a2 a9
    try k_fold
    k_steps
    refine of_held ?_
    rename Fr _ _ _ _ => lF
    rename News _ _ _ _ => lN
    rename IsRange _ _ _ _ _ _ _ _ => lR
    refine src_range rfl lF lN lR (by have := b2.1; omega) (by have := b2.2; omega) ?_
    intro gg
    try k_fold
    refine comp_nums (fun i => 0 + (i : Int) + 1) ?_ ?_
    · intro i ys v I oI C oC D m₂ h tk E' hin hv hC hx F2 N2 off ne
      try k_fold
      obtain ⟨t9, rfl⟩ := hv
      clear lF lN
      have ob := difs3 off
      obtain ⟨oa, ob, oc⟩ := ob
      skip
      skip
      skip
      skip
      have hi2 : i < 2 := by have := b2.1; have := b2.2; omega
      try k_fold
      k_steps
      refine of_held ?_
      exact LCg.CompEnd.intro (by assumption) (by assumption) _ (by k_extra "my sub") off trivial ⟨rfl, _, rfl⟩
    · intro us hus
      try k_fold
      clear lF lN
      have hul : us.length = (1 + q2).toNat := by rw [hus.length]; simp
      try k_fold
      k_steps
      refine of_held ?_
      rename Fr _ _ _ _ => lF
      rename News _ _ _ _ => lN
      have hq0 : 0 ≤ 1 + q2 := by have := b2.1; omega
      have hqc : (((1 + q2).toNat : Nat) : Int) = 1 + q2 := Int.toNat_of_nonneg hq0
      have hrN : HidP ((1 + q2).toNat = 1 ∨ (1 + q2).toNat = 2) := (by have := b2.1; have := b2.2; show _ ∨ _; omega)
      have hcolsN : Cols w (((1 + q2).toNat : Nat) : Int) g cvs nms pcss := by rw [hqc]; exact a3
      rw [nums_rows] at hus
      refine join_frame pcss (1 + q2).toNat lF lN ?f1 ?f2
      case f1 =>
        intro Q' hQ'
        have hnh : NoHold := trivial
        by_cases hb : q4 < 3
        · have hbd : decide (q4 < 3) = true := decide_eq_true hb
          clear hb
          have hnm : nms = (List.range cvs.length).map menu := by rw [a6, a5, hbd]; rfl
          have hncl : ∀ p ∈ nms, Clean p := by
            rw [hnm]
            intro p hp
            obtain ⟨j, _, rfl⟩ := List.mem_map.mp hp
            exact menu_clean j
          try k_fold
          k_steps
          refine' hQ' _ _ _ [_, _, _] ?T1 ?FF1 (drop_to ?NN1 ?SS1)
          case' T1 => refine' pf1 w _ _ _ _ _ _ _ _ _ _ _ cvs us nms pcss g (1 + q2).toNat _ _ _ _ _ _ _ _ _ _ _ _ _ _ _ _ _ _ _ _ _ _ _ ?p1 hncl hrN hcolsN hHC hcv3 hus ?p2 ?p3
          case p3 => assumption
          case p2 => assumption
          case FF1 => assumption
          case NN1 => assumption
          case SS1 => (simp only [List.cons_append, List.nil_append]; k_extra "my subg")
          case p1 => (rw [hnm]; exact menu_strs hcv3)
        · have hbd : decide (q4 < 3) = false := decide_eq_false hb
          clear hb
          have hnm : ∀ p ∈ nms, p = Str.ofString "NA" := by
            rw [a6, hbd]
            intro p hp
            obtain ⟨j, _, rfl⟩ := List.mem_map.mp hp
            rfl
          try k_fold
          k_steps
          refine' hQ' _ _ _ [] ?T2 ?FF2 (drop_to ?NN2 ?SS2)
          case T2 =>
            refine' pf0 w _ _ _ _ _ _ _ _ cvs us nms pcss g (1 + q2).toNat _ _ _ _ _ _ _ _ _ _ _ _ _ _ _ hnm hrN hcolsN hHC hcv3 hus ?q2 ?q3
            case q3 => assumption
            case q2 => assumption
          case FF2 => assumption
          case NN2 => assumption
          case SS2 => (simp only [List.cons_append, List.nil_append]; k_extra "my subg")
      case f2 =>
      intro h3 tk3 od' ex hT F3 N3
      clear lF lN
      unfold FrameTell at hT
      replace a4 := a4.mono (g' := ex ++ g) (fun p hp => List.mem_append.mpr (.inr hp))
      replace a3 := a3.fine
      clear hcolsN a6 a7 a8 hus
      generalize ex ++ g = gx at hT N3 a4
      try k_fold
      k_steps
      refine of_held ?_
      rename Fr _ _ _ _ => lF
      rename News _ _ _ _ => lN
      rename IsRange _ _ _ _ _ _ _ _ => lR
      have hsr := small_bd (b := 1 + q2) (by have := b2.1; omega) (by have := b2.2; omega)
      refine' growR (1 + q2).toNat [_, _, _, _, _, _, _, _] gx [] (fun i pv g' => g' = [] ∧ StrsAre pv (Str.ofString " " :: (List.range i).map nums)) rfl lR hsr.1 hsr.2 lF lN ?gA ⟨rfl, .cons _ _ .nil⟩ ?gB ?gC
      case gA => k_extra "my off1"
      case gB =>
        rintro i ti pv k _ uu h tk I oi hin hoI ⟨rfl, hP⟩ hfo hIg hg F1 N1
        try k_fold
        clear lF lN
        simp only [List.cons_append, List.nil_append] at N1
        try simp only [List.cons_append, List.nil_append] at hoI
        skip
        have hi2 : i < 2 := by have := b2.1; have := b2.2; omega
        have hpl : pv.length ≤ 5 := by rw [hP.length, List.length_cons, List.length_map, List.length_range]; omega
        try k_fold
        k_steps
        refine' grow_snoc [] ?FF ?NN ?SS trivial trivial (fun _ h => nomatch h) ?hm ⟨rfl, ?hP⟩
        case FF => assumption
        case NN => assumption
        case SS => simp only [List.cons_append, List.nil_append]; k_extra "my sub"
        case hm => intro z hz1 hz2; simp [kstB, hz1]
        case hP => rw [List.range_succ, List.map_append, ← List.cons_append]; exact strs_snoc hP
      case gC =>
        rintro pv k _ uu h tk ⟨rfl, hP⟩ hfo hg F1 N1
        try k_fold
        clear lF lN
        simp only [List.cons_append, List.nil_append] at N1
        rw [dueAt_nil] at hP
        try k_fold
        k_steps
        refine of_held ?_
        rename News _ _ _ _ => lN
        rename Fr _ _ _ _ => lF
        refine' ksTc (x := Str.ofString "head") _ [] [Str.ofString "texts", Str.ofString "wide", Str.ofString "at"] (fun i dvs => StrsAre dvs (dueAt (1 + q2).toNat (pcss.flatten.take i))) rfl ?hl lF lN ?hk ?hp ?turn ?done
        case hl => k_extra "my tailmem"
        case hk => exact List.forall_mem_nil _
        case hp => rw [List.take_zero]; exact hP
        case turn =>
          intro i v dvs k u h tk I oi hv hoI hD F1 N1
          try k_fold
          clear lF lN
          skip
          skip
          have hpa := pieces_at a4 hv
          obtain ⟨⟨hd9, tx9⟩, hpc, p, l, t, us9, n, n2, hv9, h1, h2, h3⟩ := hpa
          subst hv9
          dsimp only at h1 h3
          have hT : IsTup h p #[.str hd9 t, .ref l] := ⟨tup [.str hd9 t, .ref l] n2, (N1 (p, tup [.str hd9 t, .ref l] n2) (.tail _ (.tail _ (by k_extra "my tailmem")))).1, rfl, n2, rfl⟩
          have hfpc := a3.2.2 _ (List.mem_of_getElem? hpc)
          obtain ⟨hf1, hf2, hf3⟩ := hfpc
          dsimp only at hf1 hf2 hf3
          have N2 := news_add (q := (l, lst us9 n)) N1 (.tail _ (.tail _ (by k_extra "my tailmem")))
          clear N1
          have hlf : Dif l _ := off_mem hfo (l, _) h2
          have hlI : Dif l I := off_mem (off_difs hoI) (l, _) (by k_extra "my tailmem")
          have hq : q2 = 0 ∨ q2 = 1 := by have := b2.1; have := b2.2; omega
          rcases hq with hq | hq
          · subst hq
            have hs1 := strs_one h3 hf2
            obtain ⟨c1, ct1, e1, e2⟩ := hs1
            have hs2 := strs_two hD rfl
            obtain ⟨d0, dt0, d1, dt1, e3, e4⟩ := hs2
            have hbd := dueAt_bd (r := (1 + 0 : Int).toNat) (ps := pcss.flatten.take i) (by decide) (by rw [List.length_take]; have h9 := a3.2.1; have h8 := hHC.2; have h7 : cvs.length ≤ 3 := hcv3; omega) (fun pc hp => ⟨(a3.2.2 pc (List.mem_of_mem_take hp)).1, (a3.2.2 pc (List.mem_of_mem_take hp)).2.2⟩)
            rw [e4] at hbd
            have hb0 := hbd d0 (.head _)
            have hb1 := hbd d1 (.tail _ (.head _))
            clear hbd
            subst e1
            subst e2
            subst e3
            have hc1 := hf3 c1 (.head _)
            clear hf3 h3 hD hv
            try k_fold
            k_steps
            refine of_held ?_
            rename Fr _ _ _ _ => lF
            rename News _ _ _ _ => lN
            refine LCg.CompSrc.ledger (by rfl) lF lN (by k_dflt k_mem) (by rw [sizeLine_eq]; exact Nat.le_of_ble_eq_true rfl) ?_
            intro g6
            try k_fold
            refine comp_nums (n := 2) (fun j => (([hd9, c1].getD j Str.empty).length : Int)) ?_ ?_
            · intro j ys v I2 oI2 C2 oC2 D2 m₂ h tk E2 hjn hv hC hx F3 N3 off ne
              try k_fold
              clear lF lN
              have hs := sel2 hv hjn
              rcases hs with hs | hs
              all_goals
                obtain ⟨hj, hv2⟩ := hs
                subst hj
                subst hv2
                try k_fold
                k_steps
                refine of_held ?_
                exact LCg.CompEnd.intro (by assumption) (by assumption) _ (by k_extra "my sub") off (Or.inr ⟨_, by k_dflt k_mem, rfl, _, rfl⟩) ⟨rfl, _, rfl⟩
            · intro us6 hus6
              try k_fold
              clear lF lN
              have hu6 := ints_two (a := (hd9.length : Int)) (b := (c1.length : Int)) hus6
              obtain ⟨ut1, ut2, hu6⟩ := hu6
              subst hu6
              clear hus6
              have hnh : NoHold := trivial
              try k_fold
              k_steps
              rename News _ _ _ _ => lN
              refine' ks_end (_, _) ?FF lN ?SS ?ho ?hk2 ?hr2 ?hp2
              case FF => assumption
              case SS => k_extra "my subg"
              case ho => exact off_mem (by k_extra "my off1")
              case hk2 => exact List.forall_mem_nil _
              case hr2 =>
                intro z h1 h2 h3
                try k_fold
                have h456 := stored3 h3
                obtain ⟨h4, h5, h6⟩ := h456
                simp [kstB, h1, h4, h5, h6]
              case hp2 =>
                rw [take_step hpc]
                exact turn1 e4 (by assumption) (by assumption)
          · subst hq
            have hs1 := strs_two h3 hf2
            obtain ⟨c1, ct1, c2, ct2, e1, e2⟩ := hs1
            have hs2 := strs_three hD rfl
            obtain ⟨d0, dt0, d1, dt1, d2, dt2, e3, e4⟩ := hs2
            have hbd := dueAt_bd (r := (1 + 1 : Int).toNat) (ps := pcss.flatten.take i) (by decide) (by rw [List.length_take]; have h9 := a3.2.1; have h8 := hHC.2; have h7 : cvs.length ≤ 3 := hcv3; omega) (fun pc hp => ⟨(a3.2.2 pc (List.mem_of_mem_take hp)).1, (a3.2.2 pc (List.mem_of_mem_take hp)).2.2⟩)
            rw [e4] at hbd
            have hb0 := hbd d0 (.head _)
            have hb1 := hbd d1 (.tail _ (.head _))
            have hb2 := hbd d2 (.tail _ (.tail _ (.head _)))
            clear hbd
            subst e1
            subst e2
            subst e3
            have hc1 := hf3 c1 (.head _)
            have hc2 := hf3 c2 (.tail _ (.head _))
            clear hf3 h3 hD hv
            try k_fold
            k_steps
            refine of_held ?_
            rename Fr _ _ _ _ => lF
            rename News _ _ _ _ => lN
            refine LCg.CompSrc.ledger (by rfl) lF lN (by k_dflt k_mem) (by rw [sizeLine_eq]; exact Nat.le_of_ble_eq_true rfl) ?_
            intro g6
            try k_fold
            refine comp_nums (n := 3) (fun j => (([hd9, c1, c2].getD j Str.empty).length : Int)) ?_ ?_
            · intro j ys v I2 oI2 C2 oC2 D2 m₂ h tk E2 hjn hv hC hx F3 N3 off ne
              try k_fold
              clear lF lN
              have hs := sel3 hv hjn
              rcases hs with hs | hs | hs
              all_goals
                obtain ⟨hj, hv2⟩ := hs
                subst hj
                subst hv2
                try k_fold
                k_steps
                refine of_held ?_
                exact LCg.CompEnd.intro (by assumption) (by assumption) _ (by k_extra "my sub") off (Or.inr ⟨_, by k_dflt k_mem, rfl, _, rfl⟩) ⟨rfl, _, rfl⟩
            · intro us6 hus6
              try k_fold
              clear lF lN
              have hu6 := ints_three (a := (hd9.length : Int)) (b := (c1.length : Int)) (c := (c2.length : Int)) hus6
              obtain ⟨ut1, ut2, ut3, hu6⟩ := hu6
              subst hu6
              clear hus6
              have hnh : NoHold := trivial
              try k_fold
              k_steps
              rename News _ _ _ _ => lN
              refine' ks_end (_, _) ?FF lN ?SS ?ho ?hk2 ?hr2 ?hp2
              case FF => assumption
              case SS => k_extra "my subg"
              case ho => exact off_mem (by k_extra "my off1")
              case hk2 => exact List.forall_mem_nil _
              case hr2 =>
                intro z h1 h2 h3
                try k_fold
                have h456 := stored3 h3
                obtain ⟨h4, h5, h6⟩ := h456
                simp [kstB, h1, h4, h5, h6]
              case hp2 =>
                rw [take_step hpc]
                exact turn2 e4 (by assumption) (by assumption)
        case done =>
          intro dvs k u h tk hD F1 N1
          try k_fold
          clear lF lN
          rw [List.take_of_length_le (by rw [a4.length]; exact Nat.le_refl _)] at hD
          try k_fold
          k_steps
          refine of_held ?_
          refine' Tell.useP hT ?k1 ?k2 ?k3 ?k4 ?k5 ?k6 ?k7 ?k8 ?k9 ?_
          case k1 => k_dflt k_asm
          case k2 => k_dflt k_asm
          case k3 => k_dflt k_asm
          case k4 => k_dflt k_asm
          case k5 => k_dflt k_asm
          case k6 => first | exact rfl | assumption
          case k7 => (simp only [List.cons_append, List.nil_append]; k_extra "my needg")
          case k8 => with_unfolding_all exact Nat.le_of_ble_eq_true rfl
          case k9 => with_unfolding_all exact Nat.le_of_ble_eq_true rfl
          intro bb lines kk hlines h' tk' F' N' l1
          try k_fold
          rw [framed_due] at hlines
          k_steps)
end
end Mine
theorem PySem.Challenge.cw_qd0173_01_holds : PySem.Challenge.rw_qd0173_01.Holds := by
  exact Mine.law_try
