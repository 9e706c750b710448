import PyProof.Rows.All
import Wide.All
import OpenK.AllK
import Wide.FinOn
import HandS.Base
import HandS.Call
import HandS.Words
import HandS.Defaults
import HandS.HeadHook1
import HandS.HeadHook2
import KE.KStateDown
import HandS.Head0
import HandS.Head1
import HandS.Head2
import HandS.WordsExc
import HandS.HeadEnd
import KE.GoesEnum
import KE.GoesMore
import HandS.List
import HandS.Iter
import HandS.Walk
import HandS.TupMul
import HandS.TupAny
import HandS.Dict
import KE.KDictPairs
import KE.DataCmp
import HandS.Comp
import HandS.DictComp
import KE.SortData
import HandS.ForMost
import HandS.IsInst
import HandS.Wide
import HandS.Gcd
import HandS.TupLe
import HandS.Style
import HandS.Conv
import HandS.Ends
import HandS.More
import PySem.Challenge.RW_tripmeans_k28_whole_never_more_against_r
section
set_option Elab.async false
set_option linter.all false
set_option maxRecDepth 100000
set_option maxHeartbeats 4000000
/-! what the walk asks of the program's top: where each def stands, printed by gen.py -/
namespace K28
open PySem L2
abbrev PW : Program := PySem.Challenge.pw_tripmeans_k28_whole_never_more_against_r
def top (i : Nat) : Stmt := PW.main.body.getD i (.Pass ⟨0, 0, 0, 0⟩)
def tD (x : Str) (i : Nat) (ds : List He.Dv) : He.DefD := ⟨(x, none), x, x, defArgs (top i), defBody (top i), defScope (top i), ds, []⟩
def tM (x q : Str) (j : Nat) : He.DefD := ⟨("Table", some x), x, q, defArgs (inClass (top 10) j), defBody (inClass (top 10) j), defScope (inClass (top 10) j), [], []⟩
def fnL0 : List (Addr × He.DefD) := [
  (184, tM "__init__" "Table.__init__" 0),
  (191, tM "leaving" "Table.leaving" 1),
  (196, tM "pivot" "Table.pivot" 2),
  (201, tM "less" "Table.less" 3),
  (208, tM "entering" "Table.entering" 4),
  (220, tD "solved" 11 []),
  (227, tD "is_integer" 13 []),
  (234, tD "is_between" 14 []),
  (239, tD "is_row_of" 15 []),
  (244, tD "value_at" 16 []),
  (251, tD "bound_wall" 17 []),
  (256, tD "divided" 18 []),
  (261, tD "columns_for" 19 []),
  (268, tD "paper_of" 20 []),
  (273, tD "unit_paper" 21 []),
  (278, tD "followed" 22 []),
  (283, tD "are_weights" 23 []),
  (288, tD "is_paper" 24 []),
  (295, tD "is_name_value" 36 []),
  (302, tD "is_kind_value" 37 []),
  (309, tD "fits_kind" 38 []),
  (316, tD "has_name" 39 []),
  (323, tD "are_ins_value" 40 []),
  (330, tD "is_fact_value" 41 []),
  (335, tD "are_facts_value" 42 []),
  (342, tD "is_if" 43 []),
  (347, tD "items_in" 44 []),
  (354, tD "has_right_side" 45 []),
  (361, tD "is_giving" 46 []),
  (368, tD "first_wrong" 47 [])]
def fnL1 : List (Addr × He.DefD) := [
  (375, tD "places_in" 48 []),
  (385, tD "fault_of" 50 []),
  (392, tD "is_program_value" 51 []),
  (399, tD "need_program" 52 []),
  (406, tD "is_bound_value" 53 []),
  (411, tD "is_given_value" 54 []),
  (418, tD "need_given" 55 []),
  (425, tD "has_word" 57 []),
  (430, tD "unit_form" 60 []),
  (436, tD "form_sum" 61 [.int 1]),
  (441, tD "form_times" 62 []),
  (448, tD "kind_walls" 63 []),
  (453, tD "fact_wall" 64 []),
  (458, tD "input_walls" 65 []),
  (465, tD "ground_walls" 66 []),
  (479, tD "with_value" 68 []),
  (500, tD "given_states" 71 []),
  (505, tD "statements_in" 72 []),
  (519, tD "states_behind" 74 []),
  (524, tD "ways_list" 75 []),
  (531, tD "room_ahead" 76 []),
  (538, tD "whole_room" 77 []),
  (544, tD "is_single_value" 80 []),
  (551, tD "need_two" 81 []),
  (558, tD "value_walls" 82 []),
  (565, tD "judge_never_more" 83 []),
  (572, tD "is_point_of" 84 []),
  (577, tD "keeps_all" 85 []),
  (582, tD "never_more_holds" 86 []),
  (589, tD "reckoned" 88 [])]
def fnL2 : List (Addr × He.DefD) := [
  (596, tD "gone_through" 89 []),
  (603, tD "traced" 90 []),
  (608, tD "ran" 91 []),
  (615, tD "run" 93 []),
  (620, tD "_law_deck" 95 []),
  (627, tD "_law_draw" 96 []),
  (634, tD "_law_pick" 97 []),
  (641, tD "_law_kind" 98 []),
  (648, tD "_law_inputs" 99 []),
  (653, tD "_law_single" 100 []),
  (660, tD "_law_far" 101 []),
  (665, tD "_law_given" 102 []),
  (670, tD "_law_forms" 103 []),
  (675, tD "_law_two" 104 []),
  (680, tD "_law_room" 105 []),
  (685, tD "_law_at" 106 []),
  (690, tD "_law_is_small" 107 []),
  (695, tD "_law_same_ins" 108 []),
  (702, tD "_law_is_integer" 109 []),
  (707, tD "_law_are_integers" 110 []),
  (712, tD "_law_is_weights" 111 []),
  (719, tD "_law_values" 112 []),
  (724, tD "_law_is_paper" 113 []),
  (729, tD "_law_all_given" 114 []),
  (734, tD "_law_are_short" 115 []),
  (739, tD "_law_is_kind_right" 116 []),
  (744, tD "law" 117 [])]
def fnL : List (Addr × He.DefD) := fnL0 ++ fnL1 ++ fnL2
def gloL0 : List (Str × Addr) := [
  ("solved", 220),
  ("is_integer", 227),
  ("is_between", 234),
  ("is_row_of", 239),
  ("value_at", 244),
  ("bound_wall", 251),
  ("divided", 256),
  ("columns_for", 261),
  ("paper_of", 268),
  ("unit_paper", 273),
  ("followed", 278),
  ("are_weights", 283),
  ("is_paper", 288),
  ("is_name_value", 295),
  ("is_kind_value", 302),
  ("fits_kind", 309),
  ("has_name", 316),
  ("are_ins_value", 323),
  ("is_fact_value", 330),
  ("are_facts_value", 335),
  ("is_if", 342),
  ("items_in", 347),
  ("has_right_side", 354),
  ("is_giving", 361),
  ("first_wrong", 368),
  ("places_in", 375),
  ("fault_of", 385),
  ("is_program_value", 392),
  ("need_program", 399),
  ("is_bound_value", 406)]
def gloL1 : List (Str × Addr) := [
  ("is_given_value", 411),
  ("need_given", 418),
  ("has_word", 425),
  ("unit_form", 430),
  ("form_sum", 436),
  ("form_times", 441),
  ("kind_walls", 448),
  ("fact_wall", 453),
  ("input_walls", 458),
  ("ground_walls", 465),
  ("with_value", 479),
  ("given_states", 500),
  ("statements_in", 505),
  ("states_behind", 519),
  ("ways_list", 524),
  ("room_ahead", 531),
  ("whole_room", 538),
  ("is_single_value", 544),
  ("need_two", 551),
  ("value_walls", 558),
  ("judge_never_more", 565),
  ("is_point_of", 572),
  ("keeps_all", 577),
  ("never_more_holds", 582),
  ("reckoned", 589),
  ("gone_through", 596),
  ("traced", 603),
  ("ran", 608),
  ("run", 615),
  ("_law_deck", 620)]
def gloL2 : List (Str × Addr) := [
  ("_law_draw", 627),
  ("_law_pick", 634),
  ("_law_kind", 641),
  ("_law_inputs", 648),
  ("_law_single", 653),
  ("_law_far", 660),
  ("_law_given", 665),
  ("_law_forms", 670),
  ("_law_two", 675),
  ("_law_room", 680),
  ("_law_at", 685),
  ("_law_is_small", 690),
  ("_law_same_ins", 695),
  ("_law_is_integer", 702),
  ("_law_are_integers", 707),
  ("_law_is_weights", 712),
  ("_law_values", 719),
  ("_law_is_paper", 724),
  ("_law_all_given", 729),
  ("_law_are_short", 734),
  ("_law_is_kind_right", 739),
  ("law", 744),
  ("Table", 211),
  ("RESERVED", 289),
  ("PAIRED", 290),
  ("LINES", 539)]
def gloL : List (Str × Addr) := gloL0 ++ gloL1 ++ gloL2
def freeL0 : List (Str) := [
  "abs",
  "all",
  "bool",
  "dict",
  "enumerate",
  "int",
  "isinstance",
  "len",
  "list",
  "max",
  "min",
  "range",
  "sorted",
  "str",
  "sum",
  "tuple",
  "zip"]
def freeL : List (Str) := freeL0
def intL0 : List (Str × Int) := [
  ("LONGEST_NAME", 8),
  ("MOST_KIND", 30),
  ("MOST_INPUTS", 6),
  ("MOST_FACTS", 6),
  ("MOST_STATEMENTS", 24),
  ("MOST_OUTS", 4),
  ("MOST_FACTOR", 12),
  ("MOST_WAYS", 32)]
def intL : List (Str × Int) := intL0
structure Tx (K : PySem.W.Frag) (mg : Str → Option Value) : Prop where
  fn : ∀ (i : Nat) (d : Addr × He.DefD), fnL[i]? = some d → ∃ fd, FunD K d.2.name d.2.qual d.2.params d.2.body d.2.scope (d.2.dvs K) [] d.1 fd
  glo : ∀ (i : Nat) (q : Str × Addr), gloL[i]? = some q → mg q.1 = some (.ref q.2)
  free : ∀ (i : Nat) (x : Str), freeL[i]? = some x → mg x = none
  intc : ∀ (i : Nat) (q : Str × Int), intL[i]? = some q → ∃ t, mg q.1 = some (.int q.2 t)
  ltr : ∃ t, mg "LETTERS" = some (.str "abcdefghijklmnopqrstuvwxyz" t)
  gcd : mg "gcd" = some (.builtin "math.gcd")
  tup_RESERVED : ∀ H : Hp, SqT K H 289 [.str "in", .str "fact", .str "if", .str "else", .str "end", .str "out"]
  tup_PAIRED : ∀ H : Hp, SqT K H 290 [.str "plus", .str "minus", .str "least", .str "greatest"]
  tup_LINES : ∀ H : Hp, SqT K H 539 [.str "plus", .str "minus", .str "times"]
  cls : Cls K 211
  mkc : Mk K 211 184
  m_leaving : Meth K 211 "leaving" 191
  m_pivot : Meth K 211 "pivot" 196
  m_less : Meth K 211 "less" 201
  m_entering : Meth K 211 "entering" 208
  no_real : NoAttr K 211 "real"
  no_rows : NoAttr K 211 "rows"
  no_cost : NoAttr K 211 "cost"
  no_basis : NoAttr K 211 "basis"
  no_divisor : NoAttr K 211 "divisor"
/-- the function object that stands at an address -/
def fdA (K : PySem.W.Frag) (a : Addr) : FuncData := match K.lookup a with
  | some ⟨_, _, .func fd, _⟩ => fd
  | _ => PySem.W.fnOf Str.empty Str.empty { posonlyargs := [], args := [], vararg := none, kwonlyargs := [], kw_defaults := [], kwarg := none, defaults := [] } [] { kind := .function, names := [], isGenerator := false, isCoroutine := false } .none .none .none .none none .none .none
section
variable {K : PySem.W.Frag} {mg : Str → Option Value}
theorem Tx.fd (T : Tx K mg) (i : Nat) {d : Addr × He.DefD} (h : fnL[i]? = some d) : FunD K d.2.name d.2.qual d.2.params d.2.body d.2.scope (d.2.dvs K) [] d.1 (fdA K d.1) := by
  obtain ⟨fd, F⟩ := T.fn i d h
  obtain ⟨oc, od, dV, kV, doc, pm, an, cdv, ct, osl, e1, e2, e3⟩ := id F.ex
  have e : fdA K d.1 = fd := by
    unfold fdA
    rw [e2]
  rw [e]
  exact F
theorem f_Tinit (T : Tx K mg) : FunD K "__init__" "Table.__init__" (defArgs (inClass (top 10) 0)) (defBody (inClass (top 10) 0)) (defScope (inClass (top 10) 0)) [] [] 184 (fdA K 184) := T.fd 0 (d := (184, tM "__init__" "Table.__init__" 0)) rfl
theorem b_Tinit (T : Tx K mg) : Binds K (fdA K 184) ["self", "columns", "wanted"] [] := (f_Tinit T).bindsN fun _ _ _ _ _ _ us hl => match us, hl with | [_, _, _], _ => by kernel_rfl
theorem f_Tleaving (T : Tx K mg) : FunD K "leaving" "Table.leaving" (defArgs (inClass (top 10) 1)) (defBody (inClass (top 10) 1)) (defScope (inClass (top 10) 1)) [] [] 191 (fdA K 191) := T.fd 1 (d := (191, tM "leaving" "Table.leaving" 1)) rfl
theorem b_Tleaving (T : Tx K mg) : Binds K (fdA K 191) ["self", "at"] [] := (f_Tleaving T).bindsN fun _ _ _ _ _ _ us hl => match us, hl with | [_, _], _ => by kernel_rfl
theorem f_Tpivot (T : Tx K mg) : FunD K "pivot" "Table.pivot" (defArgs (inClass (top 10) 2)) (defBody (inClass (top 10) 2)) (defScope (inClass (top 10) 2)) [] [] 196 (fdA K 196) := T.fd 2 (d := (196, tM "pivot" "Table.pivot" 2)) rfl
theorem b_Tpivot (T : Tx K mg) : Binds K (fdA K 196) ["self", "number", "at"] [] := (f_Tpivot T).bindsN fun _ _ _ _ _ _ us hl => match us, hl with | [_, _, _], _ => by kernel_rfl
theorem f_Tless (T : Tx K mg) : FunD K "less" "Table.less" (defArgs (inClass (top 10) 3)) (defBody (inClass (top 10) 3)) (defScope (inClass (top 10) 3)) [] [] 201 (fdA K 201) := T.fd 3 (d := (201, tM "less" "Table.less" 3)) rfl
theorem b_Tless (T : Tx K mg) : Binds K (fdA K 201) ["self", "row", "own", "at", "head"] [] := (f_Tless T).bindsN fun _ _ _ _ _ _ us hl => match us, hl with | [_, _, _, _, _], _ => by kernel_rfl
theorem f_Tentering (T : Tx K mg) : FunD K "entering" "Table.entering" (defArgs (inClass (top 10) 4)) (defBody (inClass (top 10) 4)) (defScope (inClass (top 10) 4)) [] [] 208 (fdA K 208) := T.fd 4 (d := (208, tM "entering" "Table.entering" 4)) rfl
theorem b_Tentering (T : Tx K mg) : Binds K (fdA K 208) ["self"] [] := (f_Tentering T).bindsN fun _ _ _ _ _ _ us hl => match us, hl with | [_], _ => by kernel_rfl
theorem f_solved (T : Tx K mg) : FunD K "solved" "solved" (defArgs (top 11)) (defBody (top 11)) (defScope (top 11)) [] [] 220 (fdA K 220) := T.fd 5 (d := (220, tD "solved" 11 [])) rfl
theorem b_solved (T : Tx K mg) : Binds K (fdA K 220) ["columns", "wanted"] [] := (f_solved T).bindsN fun _ _ _ _ _ _ us hl => match us, hl with | [_, _], _ => by kernel_rfl
theorem f_is_integer (T : Tx K mg) : FunD K "is_integer" "is_integer" (defArgs (top 13)) (defBody (top 13)) (defScope (top 13)) [] [] 227 (fdA K 227) := T.fd 6 (d := (227, tD "is_integer" 13 [])) rfl
theorem b_is_integer (T : Tx K mg) : Binds K (fdA K 227) ["thing"] [] := (f_is_integer T).bindsN fun _ _ _ _ _ _ us hl => match us, hl with | [_], _ => by kernel_rfl
theorem f_is_between (T : Tx K mg) : FunD K "is_between" "is_between" (defArgs (top 14)) (defBody (top 14)) (defScope (top 14)) [] [] 234 (fdA K 234) := T.fd 7 (d := (234, tD "is_between" 14 [])) rfl
theorem b_is_between (T : Tx K mg) : Binds K (fdA K 234) ["thing", "least", "most"] [] := (f_is_between T).bindsN fun _ _ _ _ _ _ us hl => match us, hl with | [_, _, _], _ => by kernel_rfl
theorem f_is_row_of (T : Tx K mg) : FunD K "is_row_of" "is_row_of" (defArgs (top 15)) (defBody (top 15)) (defScope (top 15)) [] [] 239 (fdA K 239) := T.fd 8 (d := (239, tD "is_row_of" 15 [])) rfl
theorem b_is_row_of (T : Tx K mg) : Binds K (fdA K 239) ["width", "thing"] [] := (f_is_row_of T).bindsN fun _ _ _ _ _ _ us hl => match us, hl with | [_, _], _ => by kernel_rfl
theorem f_value_at (T : Tx K mg) : FunD K "value_at" "value_at" (defArgs (top 16)) (defBody (top 16)) (defScope (top 16)) [] [] 244 (fdA K 244) := T.fd 9 (d := (244, tD "value_at" 16 [])) rfl
theorem b_value_at (T : Tx K mg) : Binds K (fdA K 244) ["wall", "point"] [] := (f_value_at T).bindsN fun _ _ _ _ _ _ us hl => match us, hl with | [_, _], _ => by kernel_rfl
theorem f_bound_wall (T : Tx K mg) : FunD K "bound_wall" "bound_wall" (defArgs (top 17)) (defBody (top 17)) (defScope (top 17)) [] [] 251 (fdA K 251) := T.fd 10 (d := (251, tD "bound_wall" 17 [])) rfl
theorem b_bound_wall (T : Tx K mg) : Binds K (fdA K 251) ["width"] [] := (f_bound_wall T).bindsN fun _ _ _ _ _ _ us hl => match us, hl with | [_], _ => by kernel_rfl
theorem f_divided (T : Tx K mg) : FunD K "divided" "divided" (defArgs (top 18)) (defBody (top 18)) (defScope (top 18)) [] [] 256 (fdA K 256) := T.fd 11 (d := (256, tD "divided" 18 [])) rfl
theorem b_divided (T : Tx K mg) : Binds K (fdA K 256) ["numbers"] [] := (f_divided T).bindsN fun _ _ _ _ _ _ us hl => match us, hl with | [_], _ => by kernel_rfl
theorem f_columns_for (T : Tx K mg) : FunD K "columns_for" "columns_for" (defArgs (top 19)) (defBody (top 19)) (defScope (top 19)) [] [] 261 (fdA K 261) := T.fd 12 (d := (261, tD "columns_for" 19 [])) rfl
theorem b_columns_for (T : Tx K mg) : Binds K (fdA K 261) ["width", "walls", "stricts", "more"] [] := (f_columns_for T).bindsN fun _ _ _ _ _ _ us hl => match us, hl with | [_, _, _, _], _ => by kernel_rfl
theorem f_paper_of (T : Tx K mg) : FunD K "paper_of" "paper_of" (defArgs (top 20)) (defBody (top 20)) (defScope (top 20)) [] [] 268 (fdA K 268) := T.fd 13 (d := (268, tD "paper_of" 20 [])) rfl
theorem b_paper_of (T : Tx K mg) : Binds K (fdA K 268) ["width", "walls", "stricts", "more"] [] := (f_paper_of T).bindsN fun _ _ _ _ _ _ us hl => match us, hl with | [_, _, _, _], _ => by kernel_rfl
theorem f_unit_paper (T : Tx K mg) : FunD K "unit_paper" "unit_paper" (defArgs (top 21)) (defBody (top 21)) (defScope (top 21)) [] [] 273 (fdA K 273) := T.fd 14 (d := (273, tD "unit_paper" 21 [])) rfl
theorem b_unit_paper (T : Tx K mg) : Binds K (fdA K 273) ["walls", "stricts", "wall"] [] := (f_unit_paper T).bindsN fun _ _ _ _ _ _ us hl => match us, hl with | [_, _, _], _ => by kernel_rfl
theorem f_followed (T : Tx K mg) : FunD K "followed" "followed" (defArgs (top 22)) (defBody (top 22)) (defScope (top 22)) [] [] 278 (fdA K 278) := T.fd 15 (d := (278, tD "followed" 22 [])) rfl
theorem b_followed (T : Tx K mg) : Binds K (fdA K 278) ["width", "walls", "stricts", "wall"] [] := (f_followed T).bindsN fun _ _ _ _ _ _ us hl => match us, hl with | [_, _, _, _], _ => by kernel_rfl
theorem f_are_weights (T : Tx K mg) : FunD K "are_weights" "are_weights" (defArgs (top 23)) (defBody (top 23)) (defScope (top 23)) [] [] 283 (fdA K 283) := T.fd 16 (d := (283, tD "are_weights" 23 [])) rfl
theorem b_are_weights (T : Tx K mg) : Binds K (fdA K 283) ["many", "thing"] [] := (f_are_weights T).bindsN fun _ _ _ _ _ _ us hl => match us, hl with | [_, _], _ => by kernel_rfl
theorem f_is_paper (T : Tx K mg) : FunD K "is_paper" "is_paper" (defArgs (top 24)) (defBody (top 24)) (defScope (top 24)) [] [] 288 (fdA K 288) := T.fd 17 (d := (288, tD "is_paper" 24 [])) rfl
theorem b_is_paper (T : Tx K mg) : Binds K (fdA K 288) ["width", "walls", "stricts", "wall", "thing"] [] := (f_is_paper T).bindsN fun _ _ _ _ _ _ us hl => match us, hl with | [_, _, _, _, _], _ => by kernel_rfl
theorem f_is_name_value (T : Tx K mg) : FunD K "is_name_value" "is_name_value" (defArgs (top 36)) (defBody (top 36)) (defScope (top 36)) [] [] 295 (fdA K 295) := T.fd 18 (d := (295, tD "is_name_value" 36 [])) rfl
theorem b_is_name_value (T : Tx K mg) : Binds K (fdA K 295) ["thing"] [] := (f_is_name_value T).bindsN fun _ _ _ _ _ _ us hl => match us, hl with | [_], _ => by kernel_rfl
theorem f_is_kind_value (T : Tx K mg) : FunD K "is_kind_value" "is_kind_value" (defArgs (top 37)) (defBody (top 37)) (defScope (top 37)) [] [] 302 (fdA K 302) := T.fd 19 (d := (302, tD "is_kind_value" 37 [])) rfl
theorem b_is_kind_value (T : Tx K mg) : Binds K (fdA K 302) ["thing"] [] := (f_is_kind_value T).bindsN fun _ _ _ _ _ _ us hl => match us, hl with | [_], _ => by kernel_rfl
theorem f_fits_kind (T : Tx K mg) : FunD K "fits_kind" "fits_kind" (defArgs (top 38)) (defBody (top 38)) (defScope (top 38)) [] [] 309 (fdA K 309) := T.fd 20 (d := (309, tD "fits_kind" 38 [])) rfl
theorem b_fits_kind (T : Tx K mg) : Binds K (fdA K 309) ["value", "kind", "bound"] [] := (f_fits_kind T).bindsN fun _ _ _ _ _ _ us hl => match us, hl with | [_, _, _], _ => by kernel_rfl
theorem f_has_name (T : Tx K mg) : FunD K "has_name" "has_name" (defArgs (top 39)) (defBody (top 39)) (defScope (top 39)) [] [] 316 (fdA K 316) := T.fd 21 (d := (316, tD "has_name" 39 [])) rfl
theorem b_has_name (T : Tx K mg) : Binds K (fdA K 316) ["known", "thing"] [] := (f_has_name T).bindsN fun _ _ _ _ _ _ us hl => match us, hl with | [_, _], _ => by kernel_rfl
theorem f_are_ins_value (T : Tx K mg) : FunD K "are_ins_value" "are_ins_value" (defArgs (top 40)) (defBody (top 40)) (defScope (top 40)) [] [] 323 (fdA K 323) := T.fd 22 (d := (323, tD "are_ins_value" 40 [])) rfl
theorem b_are_ins_value (T : Tx K mg) : Binds K (fdA K 323) ["thing"] [] := (f_are_ins_value T).bindsN fun _ _ _ _ _ _ us hl => match us, hl with | [_], _ => by kernel_rfl
theorem f_is_fact_value (T : Tx K mg) : FunD K "is_fact_value" "is_fact_value" (defArgs (top 41)) (defBody (top 41)) (defScope (top 41)) [] [] 330 (fdA K 330) := T.fd 23 (d := (330, tD "is_fact_value" 41 [])) rfl
theorem b_is_fact_value (T : Tx K mg) : Binds K (fdA K 330) ["names", "thing"] [] := (f_is_fact_value T).bindsN fun _ _ _ _ _ _ us hl => match us, hl with | [_, _], _ => by kernel_rfl
theorem f_are_facts_value (T : Tx K mg) : FunD K "are_facts_value" "are_facts_value" (defArgs (top 42)) (defBody (top 42)) (defScope (top 42)) [] [] 335 (fdA K 335) := T.fd 24 (d := (335, tD "are_facts_value" 42 [])) rfl
theorem b_are_facts_value (T : Tx K mg) : Binds K (fdA K 335) ["ins", "thing"] [] := (f_are_facts_value T).bindsN fun _ _ _ _ _ _ us hl => match us, hl with | [_, _], _ => by kernel_rfl
theorem f_is_if (T : Tx K mg) : FunD K "is_if" "is_if" (defArgs (top 43)) (defBody (top 43)) (defScope (top 43)) [] [] 342 (fdA K 342) := T.fd 25 (d := (342, tD "is_if" 43 [])) rfl
theorem b_is_if (T : Tx K mg) : Binds K (fdA K 342) ["thing"] [] := (f_is_if T).bindsN fun _ _ _ _ _ _ us hl => match us, hl with | [_], _ => by kernel_rfl
theorem f_items_in (T : Tx K mg) : FunD K "items_in" "items_in" (defArgs (top 44)) (defBody (top 44)) (defScope (top 44)) [] [] 347 (fdA K 347) := T.fd 26 (d := (347, tD "items_in" 44 [])) rfl
theorem b_items_in (T : Tx K mg) : Binds K (fdA K 347) ["body"] [] := (f_items_in T).bindsN fun _ _ _ _ _ _ us hl => match us, hl with | [_], _ => by kernel_rfl
theorem f_has_right_side (T : Tx K mg) : FunD K "has_right_side" "has_right_side" (defArgs (top 45)) (defBody (top 45)) (defScope (top 45)) [] [] 354 (fdA K 354) := T.fd 27 (d := (354, tD "has_right_side" 45 [])) rfl
theorem b_has_right_side (T : Tx K mg) : Binds K (fdA K 354) ["known", "thing"] [] := (f_has_right_side T).bindsN fun _ _ _ _ _ _ us hl => match us, hl with | [_, _], _ => by kernel_rfl
theorem f_is_giving (T : Tx K mg) : FunD K "is_giving" "is_giving" (defArgs (top 46)) (defBody (top 46)) (defScope (top 46)) [] [] 361 (fdA K 361) := T.fd 28 (d := (361, tD "is_giving" 46 [])) rfl
theorem b_is_giving (T : Tx K mg) : Binds K (fdA K 361) ["known", "thing"] [] := (f_is_giving T).bindsN fun _ _ _ _ _ _ us hl => match us, hl with | [_, _], _ => by kernel_rfl
theorem f_first_wrong (T : Tx K mg) : FunD K "first_wrong" "first_wrong" (defArgs (top 47)) (defBody (top 47)) (defScope (top 47)) [] [] 368 (fdA K 368) := T.fd 29 (d := (368, tD "first_wrong" 47 [])) rfl
theorem b_first_wrong (T : Tx K mg) : Binds K (fdA K 368) ["body", "known", "number", "needed"] [] := (f_first_wrong T).bindsN fun _ _ _ _ _ _ us hl => match us, hl with | [_, _, _, _], _ => by kernel_rfl
theorem f_places_in (T : Tx K mg) : FunD K "places_in" "places_in" (defArgs (top 48)) (defBody (top 48)) (defScope (top 48)) [] [] 375 (fdA K 375) := T.fd 30 (d := (375, tD "places_in" 48 [])) rfl
theorem b_places_in (T : Tx K mg) : Binds K (fdA K 375) ["body", "known", "path"] [] := (f_places_in T).bindsN fun _ _ _ _ _ _ us hl => match us, hl with | [_, _, _], _ => by kernel_rfl
theorem f_fault_of (T : Tx K mg) : FunD K "fault_of" "fault_of" (defArgs (top 50)) (defBody (top 50)) (defScope (top 50)) [] [] 385 (fdA K 385) := T.fd 31 (d := (385, tD "fault_of" 50 [])) rfl
theorem b_fault_of (T : Tx K mg) : Binds K (fdA K 385) ["ins", "facts", "body", "outs"] [] := (f_fault_of T).bindsN fun _ _ _ _ _ _ us hl => match us, hl with | [_, _, _, _], _ => by kernel_rfl
theorem f_is_program_value (T : Tx K mg) : FunD K "is_program_value" "is_program_value" (defArgs (top 51)) (defBody (top 51)) (defScope (top 51)) [] [] 392 (fdA K 392) := T.fd 32 (d := (392, tD "is_program_value" 51 [])) rfl
theorem b_is_program_value (T : Tx K mg) : Binds K (fdA K 392) ["thing"] [] := (f_is_program_value T).bindsN fun _ _ _ _ _ _ us hl => match us, hl with | [_], _ => by kernel_rfl
theorem f_need_program (T : Tx K mg) : FunD K "need_program" "need_program" (defArgs (top 52)) (defBody (top 52)) (defScope (top 52)) [] [] 399 (fdA K 399) := T.fd 33 (d := (399, tD "need_program" 52 [])) rfl
theorem b_need_program (T : Tx K mg) : Binds K (fdA K 399) ["program"] [] := (f_need_program T).bindsN fun _ _ _ _ _ _ us hl => match us, hl with | [_], _ => by kernel_rfl
theorem f_is_bound_value (T : Tx K mg) : FunD K "is_bound_value" "is_bound_value" (defArgs (top 53)) (defBody (top 53)) (defScope (top 53)) [] [] 406 (fdA K 406) := T.fd 34 (d := (406, tD "is_bound_value" 53 [])) rfl
theorem b_is_bound_value (T : Tx K mg) : Binds K (fdA K 406) ["thing"] [] := (f_is_bound_value T).bindsN fun _ _ _ _ _ _ us hl => match us, hl with | [_], _ => by kernel_rfl
theorem f_is_given_value (T : Tx K mg) : FunD K "is_given_value" "is_given_value" (defArgs (top 54)) (defBody (top 54)) (defScope (top 54)) [] [] 411 (fdA K 411) := T.fd 35 (d := (411, tD "is_given_value" 54 [])) rfl
theorem b_is_given_value (T : Tx K mg) : Binds K (fdA K 411) ["program", "bound", "given"] [] := (f_is_given_value T).bindsN fun _ _ _ _ _ _ us hl => match us, hl with | [_, _, _], _ => by kernel_rfl
theorem f_need_given (T : Tx K mg) : FunD K "need_given" "need_given" (defArgs (top 55)) (defBody (top 55)) (defScope (top 55)) [] [] 418 (fdA K 418) := T.fd 36 (d := (418, tD "need_given" 55 [])) rfl
theorem b_need_given (T : Tx K mg) : Binds K (fdA K 418) ["program", "bound", "given"] [] := (f_need_given T).bindsN fun _ _ _ _ _ _ us hl => match us, hl with | [_, _, _], _ => by kernel_rfl
theorem f_has_word (T : Tx K mg) : FunD K "has_word" "has_word" (defArgs (top 57)) (defBody (top 57)) (defScope (top 57)) [] [] 425 (fdA K 425) := T.fd 37 (d := (425, tD "has_word" 57 [])) rfl
theorem b_has_word (T : Tx K mg) : Binds K (fdA K 425) ["thing", "word", "many"] [] := (f_has_word T).bindsN fun _ _ _ _ _ _ us hl => match us, hl with | [_, _, _], _ => by kernel_rfl
theorem f_unit_form (T : Tx K mg) : FunD K "unit_form" "unit_form" (defArgs (top 60)) (defBody (top 60)) (defScope (top 60)) [] [] 430 (fdA K 430) := T.fd 38 (d := (430, tD "unit_form" 60 [])) rfl
theorem b_unit_form (T : Tx K mg) : Binds K (fdA K 430) ["n", "at"] [] := (f_unit_form T).bindsN fun _ _ _ _ _ _ us hl => match us, hl with | [_, _], _ => by kernel_rfl
theorem f_form_sum (T : Tx K mg) : FunD K "form_sum" "form_sum" (defArgs (top 61)) (defBody (top 61)) (defScope (top 61)) [.int 1] [] 436 (fdA K 436) := T.fd 39 (d := (436, tD "form_sum" 61 [.int 1])) rfl
theorem f_form_times (T : Tx K mg) : FunD K "form_times" "form_times" (defArgs (top 62)) (defBody (top 62)) (defScope (top 62)) [] [] 441 (fdA K 441) := T.fd 40 (d := (441, tD "form_times" 62 [])) rfl
theorem b_form_times (T : Tx K mg) : Binds K (fdA K 441) ["many", "form"] [] := (f_form_times T).bindsN fun _ _ _ _ _ _ us hl => match us, hl with | [_, _], _ => by kernel_rfl
theorem f_kind_walls (T : Tx K mg) : FunD K "kind_walls" "kind_walls" (defArgs (top 63)) (defBody (top 63)) (defScope (top 63)) [] [] 448 (fdA K 448) := T.fd 41 (d := (448, tD "kind_walls" 63 [])) rfl
theorem b_kind_walls (T : Tx K mg) : Binds K (fdA K 448) ["form", "kind"] [] := (f_kind_walls T).bindsN fun _ _ _ _ _ _ us hl => match us, hl with | [_, _], _ => by kernel_rfl
theorem f_fact_wall (T : Tx K mg) : FunD K "fact_wall" "fact_wall" (defArgs (top 64)) (defBody (top 64)) (defScope (top 64)) [] [] 453 (fdA K 453) := T.fd 42 (d := (453, tD "fact_wall" 64 [])) rfl
theorem b_fact_wall (T : Tx K mg) : Binds K (fdA K 453) ["ins", "small", "large"] [] := (f_fact_wall T).bindsN fun _ _ _ _ _ _ us hl => match us, hl with | [_, _, _], _ => by kernel_rfl
theorem f_input_walls (T : Tx K mg) : FunD K "input_walls" "input_walls" (defArgs (top 65)) (defBody (top 65)) (defScope (top 65)) [] [] 458 (fdA K 458) := T.fd 43 (d := (458, tD "input_walls" 65 [])) rfl
theorem b_input_walls (T : Tx K mg) : Binds K (fdA K 458) ["ins", "facts"] [] := (f_input_walls T).bindsN fun _ _ _ _ _ _ us hl => match us, hl with | [_, _], _ => by kernel_rfl
theorem f_ground_walls (T : Tx K mg) : FunD K "ground_walls" "ground_walls" (defArgs (top 66)) (defBody (top 66)) (defScope (top 66)) [] [] 465 (fdA K 465) := T.fd 44 (d := (465, tD "ground_walls" 66 [])) rfl
theorem b_ground_walls (T : Tx K mg) : Binds K (fdA K 465) ["program"] [] := (f_ground_walls T).bindsN fun _ _ _ _ _ _ us hl => match us, hl with | [_], _ => by kernel_rfl
theorem f_with_value (T : Tx K mg) : FunD K "with_value" "with_value" (defArgs (top 68)) (defBody (top 68)) (defScope (top 68)) [] [] 479 (fdA K 479) := T.fd 45 (d := (479, tD "with_value" 68 [])) rfl
theorem b_with_value (T : Tx K mg) : Binds K (fdA K 479) ["state", "number", "statement", "form"] [] := (f_with_value T).bindsN fun _ _ _ _ _ _ us hl => match us, hl with | [_, _, _, _], _ => by kernel_rfl
theorem f_given_states (T : Tx K mg) : FunD K "given_states" "given_states" (defArgs (top 71)) (defBody (top 71)) (defScope (top 71)) [] [] 500 (fdA K 500) := T.fd 46 (d := (500, tD "given_states" 71 [])) rfl
theorem b_given_states (T : Tx K mg) : Binds K (fdA K 500) ["state", "number", "statement"] [] := (f_given_states T).bindsN fun _ _ _ _ _ _ us hl => match us, hl with | [_, _, _], _ => by kernel_rfl
theorem f_statements_in (T : Tx K mg) : FunD K "statements_in" "statements_in" (defArgs (top 72)) (defBody (top 72)) (defScope (top 72)) [] [] 505 (fdA K 505) := T.fd 47 (d := (505, tD "statements_in" 72 [])) rfl
theorem b_statements_in (T : Tx K mg) : Binds K (fdA K 505) ["body"] [] := (f_statements_in T).bindsN fun _ _ _ _ _ _ us hl => match us, hl with | [_], _ => by kernel_rfl
theorem f_states_behind (T : Tx K mg) : FunD K "states_behind" "states_behind" (defArgs (top 74)) (defBody (top 74)) (defScope (top 74)) [] [] 519 (fdA K 519) := T.fd 48 (d := (519, tD "states_behind" 74 [])) rfl
theorem b_states_behind (T : Tx K mg) : Binds K (fdA K 519) ["state", "number", "body"] [] := (f_states_behind T).bindsN fun _ _ _ _ _ _ us hl => match us, hl with | [_, _, _], _ => by kernel_rfl
theorem f_ways_list (T : Tx K mg) : FunD K "ways_list" "ways_list" (defArgs (top 75)) (defBody (top 75)) (defScope (top 75)) [] [] 524 (fdA K 524) := T.fd 49 (d := (524, tD "ways_list" 75 [])) rfl
theorem b_ways_list (T : Tx K mg) : Binds K (fdA K 524) ["program"] [] := (f_ways_list T).bindsN fun _ _ _ _ _ _ us hl => match us, hl with | [_], _ => by kernel_rfl
theorem f_room_ahead (T : Tx K mg) : FunD K "room_ahead" "room_ahead" (defArgs (top 76)) (defBody (top 76)) (defScope (top 76)) [] [] 531 (fdA K 531) := T.fd 50 (d := (531, tD "room_ahead" 76 [])) rfl
theorem b_room_ahead (T : Tx K mg) : Binds K (fdA K 531) ["program", "way", "at", "with_values"] [] := (f_room_ahead T).bindsN fun _ _ _ _ _ _ us hl => match us, hl with | [_, _, _, _], _ => by kernel_rfl
theorem f_whole_room (T : Tx K mg) : FunD K "whole_room" "whole_room" (defArgs (top 77)) (defBody (top 77)) (defScope (top 77)) [] [] 538 (fdA K 538) := T.fd 51 (d := (538, tD "whole_room" 77 [])) rfl
theorem b_whole_room (T : Tx K mg) : Binds K (fdA K 538) ["program", "way"] [] := (f_whole_room T).bindsN fun _ _ _ _ _ _ us hl => match us, hl with | [_, _], _ => by kernel_rfl
theorem f_is_single_value (T : Tx K mg) : FunD K "is_single_value" "is_single_value" (defArgs (top 80)) (defBody (top 80)) (defScope (top 80)) [] [] 544 (fdA K 544) := T.fd 52 (d := (544, tD "is_single_value" 80 [])) rfl
theorem b_is_single_value (T : Tx K mg) : Binds K (fdA K 544) ["program"] [] := (f_is_single_value T).bindsN fun _ _ _ _ _ _ us hl => match us, hl with | [_], _ => by kernel_rfl
theorem f_need_two (T : Tx K mg) : FunD K "need_two" "need_two" (defArgs (top 81)) (defBody (top 81)) (defScope (top 81)) [] [] 551 (fdA K 551) := T.fd 53 (d := (551, tD "need_two" 81 [])) rfl
theorem b_need_two (T : Tx K mg) : Binds K (fdA K 551) ["one", "other"] [] := (f_need_two T).bindsN fun _ _ _ _ _ _ us hl => match us, hl with | [_, _], _ => by kernel_rfl
theorem f_value_walls (T : Tx K mg) : FunD K "value_walls" "value_walls" (defArgs (top 82)) (defBody (top 82)) (defScope (top 82)) [] [] 558 (fdA K 558) := T.fd 54 (d := (558, tD "value_walls" 82 [])) rfl
theorem b_value_walls (T : Tx K mg) : Binds K (fdA K 558) ["program"] [] := (f_value_walls T).bindsN fun _ _ _ _ _ _ us hl => match us, hl with | [_], _ => by kernel_rfl
theorem f_judge_never_more (T : Tx K mg) : FunD K "judge_never_more" "judge_never_more" (defArgs (top 83)) (defBody (top 83)) (defScope (top 83)) [] [] 565 (fdA K 565) := T.fd 55 (d := (565, tD "judge_never_more" 83 [])) rfl
theorem b_judge_never_more (T : Tx K mg) : Binds K (fdA K 565) ["one", "other"] [] := (f_judge_never_more T).bindsN fun _ _ _ _ _ _ us hl => match us, hl with | [_, _], _ => by kernel_rfl
theorem f_is_point_of (T : Tx K mg) : FunD K "is_point_of" "is_point_of" (defArgs (top 84)) (defBody (top 84)) (defScope (top 84)) [] [] 572 (fdA K 572) := T.fd 56 (d := (572, tD "is_point_of" 84 [])) rfl
theorem b_is_point_of (T : Tx K mg) : Binds K (fdA K 572) ["program", "bound", "given"] [] := (f_is_point_of T).bindsN fun _ _ _ _ _ _ us hl => match us, hl with | [_, _, _], _ => by kernel_rfl
theorem f_keeps_all (T : Tx K mg) : FunD K "keeps_all" "keeps_all" (defArgs (top 85)) (defBody (top 85)) (defScope (top 85)) [] [] 577 (fdA K 577) := T.fd 57 (d := (577, tD "keeps_all" 85 [])) rfl
theorem b_keeps_all (T : Tx K mg) : Binds K (fdA K 577) ["walls", "point"] [] := (f_keeps_all T).bindsN fun _ _ _ _ _ _ us hl => match us, hl with | [_, _], _ => by kernel_rfl
theorem f_never_more_holds (T : Tx K mg) : FunD K "never_more_holds" "never_more_holds" (defArgs (top 86)) (defBody (top 86)) (defScope (top 86)) [] [] 582 (fdA K 582) := T.fd 58 (d := (582, tD "never_more_holds" 86 [])) rfl
theorem b_never_more_holds (T : Tx K mg) : Binds K (fdA K 582) ["one", "other", "thing"] [] := (f_never_more_holds T).bindsN fun _ _ _ _ _ _ us hl => match us, hl with | [_, _, _], _ => by kernel_rfl
theorem f_reckoned (T : Tx K mg) : FunD K "reckoned" "reckoned" (defArgs (top 88)) (defBody (top 88)) (defScope (top 88)) [] [] 589 (fdA K 589) := T.fd 59 (d := (589, tD "reckoned" 88 [])) rfl
theorem b_reckoned (T : Tx K mg) : Binds K (fdA K 589) ["statement", "values"] [] := (f_reckoned T).bindsN fun _ _ _ _ _ _ us hl => match us, hl with | [_, _], _ => by kernel_rfl
theorem f_gone_through (T : Tx K mg) : FunD K "gone_through" "gone_through" (defArgs (top 89)) (defBody (top 89)) (defScope (top 89)) [] [] 596 (fdA K 596) := T.fd 60 (d := (596, tD "gone_through" 89 [])) rfl
theorem b_gone_through (T : Tx K mg) : Binds K (fdA K 596) ["body", "number", "values", "bound", "told"] [] := (f_gone_through T).bindsN fun _ _ _ _ _ _ us hl => match us, hl with | [_, _, _, _, _], _ => by kernel_rfl
theorem f_traced (T : Tx K mg) : FunD K "traced" "traced" (defArgs (top 90)) (defBody (top 90)) (defScope (top 90)) [] [] 603 (fdA K 603) := T.fd 61 (d := (603, tD "traced" 90 [])) rfl
theorem b_traced (T : Tx K mg) : Binds K (fdA K 603) ["program", "bound", "given"] [] := (f_traced T).bindsN fun _ _ _ _ _ _ us hl => match us, hl with | [_, _, _], _ => by kernel_rfl
theorem f_ran (T : Tx K mg) : FunD K "ran" "ran" (defArgs (top 91)) (defBody (top 91)) (defScope (top 91)) [] [] 608 (fdA K 608) := T.fd 62 (d := (608, tD "ran" 91 [])) rfl
theorem b_ran (T : Tx K mg) : Binds K (fdA K 608) ["program", "bound", "given"] [] := (f_ran T).bindsN fun _ _ _ _ _ _ us hl => match us, hl with | [_, _, _], _ => by kernel_rfl
theorem f_run (T : Tx K mg) : FunD K "run" "run" (defArgs (top 93)) (defBody (top 93)) (defScope (top 93)) [] [] 615 (fdA K 615) := T.fd 63 (d := (615, tD "run" 93 [])) rfl
theorem b_run (T : Tx K mg) : Binds K (fdA K 615) ["program", "bound", "given"] [] := (f_run T).bindsN fun _ _ _ _ _ _ us hl => match us, hl with | [_, _, _], _ => by kernel_rfl
theorem f_law_deck (T : Tx K mg) : FunD K "_law_deck" "_law_deck" (defArgs (top 95)) (defBody (top 95)) (defScope (top 95)) [] [] 620 (fdA K 620) := T.fd 64 (d := (620, tD "_law_deck" 95 [])) rfl
theorem b_law_deck (T : Tx K mg) : Binds K (fdA K 620) ["_law_script"] [] := (f_law_deck T).bindsN fun _ _ _ _ _ _ us hl => match us, hl with | [_], _ => by kernel_rfl
theorem f_law_draw (T : Tx K mg) : FunD K "_law_draw" "_law_draw" (defArgs (top 96)) (defBody (top 96)) (defScope (top 96)) [] [] 627 (fdA K 627) := T.fd 65 (d := (627, tD "_law_draw" 96 [])) rfl
theorem b_law_draw (T : Tx K mg) : Binds K (fdA K 627) ["_law_deck_here", "_law_below"] [] := (f_law_draw T).bindsN fun _ _ _ _ _ _ us hl => match us, hl with | [_, _], _ => by kernel_rfl
theorem f_law_pick (T : Tx K mg) : FunD K "_law_pick" "_law_pick" (defArgs (top 97)) (defBody (top 97)) (defScope (top 97)) [] [] 634 (fdA K 634) := T.fd 66 (d := (634, tD "_law_pick" 97 [])) rfl
theorem b_law_pick (T : Tx K mg) : Binds K (fdA K 634) ["_law_deck_here", "_law_some"] [] := (f_law_pick T).bindsN fun _ _ _ _ _ _ us hl => match us, hl with | [_, _], _ => by kernel_rfl
theorem f_law_kind (T : Tx K mg) : FunD K "_law_kind" "_law_kind" (defArgs (top 98)) (defBody (top 98)) (defScope (top 98)) [] [] 641 (fdA K 641) := T.fd 67 (d := (641, tD "_law_kind" 98 [])) rfl
theorem b_law_kind (T : Tx K mg) : Binds K (fdA K 641) ["_law_deck_here"] [] := (f_law_kind T).bindsN fun _ _ _ _ _ _ us hl => match us, hl with | [_], _ => by kernel_rfl
theorem f_law_inputs (T : Tx K mg) : FunD K "_law_inputs" "_law_inputs" (defArgs (top 99)) (defBody (top 99)) (defScope (top 99)) [] [] 648 (fdA K 648) := T.fd 68 (d := (648, tD "_law_inputs" 99 [])) rfl
theorem b_law_inputs (T : Tx K mg) : Binds K (fdA K 648) ["_law_deck_here", "_law_most"] [] := (f_law_inputs T).bindsN fun _ _ _ _ _ _ us hl => match us, hl with | [_, _], _ => by kernel_rfl
theorem f_law_single (T : Tx K mg) : FunD K "_law_single" "_law_single" (defArgs (top 100)) (defBody (top 100)) (defScope (top 100)) [] [] 653 (fdA K 653) := T.fd 69 (d := (653, tD "_law_single" 100 [])) rfl
theorem b_law_single (T : Tx K mg) : Binds K (fdA K 653) ["_law_deck_here", "_law_most", "_law_inputs_here"] [] := (f_law_single T).bindsN fun _ _ _ _ _ _ us hl => match us, hl with | [_, _, _], _ => by kernel_rfl
theorem f_law_far (T : Tx K mg) : FunD K "_law_far" "_law_far" (defArgs (top 101)) (defBody (top 101)) (defScope (top 101)) [] [] 660 (fdA K 660) := T.fd 70 (d := (660, tD "_law_far" 101 [])) rfl
theorem b_law_far (T : Tx K mg) : Binds K (fdA K 660) ["_law_deck_here", "_law_size"] [] := (f_law_far T).bindsN fun _ _ _ _ _ _ us hl => match us, hl with | [_, _], _ => by kernel_rfl
theorem f_law_given (T : Tx K mg) : FunD K "_law_given" "_law_given" (defArgs (top 102)) (defBody (top 102)) (defScope (top 102)) [] [] 665 (fdA K 665) := T.fd 71 (d := (665, tD "_law_given" 102 [])) rfl
theorem b_law_given (T : Tx K mg) : Binds K (fdA K 665) ["_law_deck_here", "_law_program", "_law_bound"] [] := (f_law_given T).bindsN fun _ _ _ _ _ _ us hl => match us, hl with | [_, _, _], _ => by kernel_rfl
theorem f_law_forms (T : Tx K mg) : FunD K "_law_forms" "_law_forms" (defArgs (top 103)) (defBody (top 103)) (defScope (top 103)) [] [] 670 (fdA K 670) := T.fd 72 (d := (670, tD "_law_forms" 103 [])) rfl
theorem b_law_forms (T : Tx K mg) : Binds K (fdA K 670) ["_law_program"] [] := (f_law_forms T).bindsN fun _ _ _ _ _ _ us hl => match us, hl with | [_], _ => by kernel_rfl
theorem f_law_two (T : Tx K mg) : FunD K "_law_two" "_law_two" (defArgs (top 104)) (defBody (top 104)) (defScope (top 104)) [] [] 675 (fdA K 675) := T.fd 73 (d := (675, tD "_law_two" 104 [])) rfl
theorem b_law_two (T : Tx K mg) : Binds K (fdA K 675) ["_law_form", "_law_kind_here"] [] := (f_law_two T).bindsN fun _ _ _ _ _ _ us hl => match us, hl with | [_, _], _ => by kernel_rfl
theorem f_law_room (T : Tx K mg) : FunD K "_law_room" "_law_room" (defArgs (top 105)) (defBody (top 105)) (defScope (top 105)) [] [] 680 (fdA K 680) := T.fd 74 (d := (680, tD "_law_room" 105 [])) rfl
theorem b_law_room (T : Tx K mg) : Binds K (fdA K 680) ["_law_program"] [] := (f_law_room T).bindsN fun _ _ _ _ _ _ us hl => match us, hl with | [_], _ => by kernel_rfl
theorem f_law_at (T : Tx K mg) : FunD K "_law_at" "_law_at" (defArgs (top 106)) (defBody (top 106)) (defScope (top 106)) [] [] 685 (fdA K 685) := T.fd 75 (d := (685, tD "_law_at" 106 [])) rfl
theorem b_law_at (T : Tx K mg) : Binds K (fdA K 685) ["_law_shut", "_law_point"] [] := (f_law_at T).bindsN fun _ _ _ _ _ _ us hl => match us, hl with | [_, _], _ => by kernel_rfl
theorem f_law_is_small (T : Tx K mg) : FunD K "_law_is_small" "_law_is_small" (defArgs (top 107)) (defBody (top 107)) (defScope (top 107)) [] [] 690 (fdA K 690) := T.fd 76 (d := (690, tD "_law_is_small" 107 [])) rfl
theorem b_law_is_small (T : Tx K mg) : Binds K (fdA K 690) ["_law_program"] [] := (f_law_is_small T).bindsN fun _ _ _ _ _ _ us hl => match us, hl with | [_], _ => by kernel_rfl
theorem f_law_same_ins (T : Tx K mg) : FunD K "_law_same_ins" "_law_same_ins" (defArgs (top 108)) (defBody (top 108)) (defScope (top 108)) [] [] 695 (fdA K 695) := T.fd 77 (d := (695, tD "_law_same_ins" 108 [])) rfl
theorem b_law_same_ins (T : Tx K mg) : Binds K (fdA K 695) ["_law_deck_here", "_law_one"] [] := (f_law_same_ins T).bindsN fun _ _ _ _ _ _ us hl => match us, hl with | [_, _], _ => by kernel_rfl
theorem f_law_is_integer (T : Tx K mg) : FunD K "_law_is_integer" "_law_is_integer" (defArgs (top 109)) (defBody (top 109)) (defScope (top 109)) [] [] 702 (fdA K 702) := T.fd 78 (d := (702, tD "_law_is_integer" 109 [])) rfl
theorem b_law_is_integer (T : Tx K mg) : Binds K (fdA K 702) ["_law_thing"] [] := (f_law_is_integer T).bindsN fun _ _ _ _ _ _ us hl => match us, hl with | [_], _ => by kernel_rfl
theorem f_law_are_integers (T : Tx K mg) : FunD K "_law_are_integers" "_law_are_integers" (defArgs (top 110)) (defBody (top 110)) (defScope (top 110)) [] [] 707 (fdA K 707) := T.fd 79 (d := (707, tD "_law_are_integers" 110 [])) rfl
theorem b_law_are_integers (T : Tx K mg) : Binds K (fdA K 707) ["_law_thing"] [] := (f_law_are_integers T).bindsN fun _ _ _ _ _ _ us hl => match us, hl with | [_], _ => by kernel_rfl
theorem f_law_is_weights (T : Tx K mg) : FunD K "_law_is_weights" "_law_is_weights" (defArgs (top 111)) (defBody (top 111)) (defScope (top 111)) [] [] 712 (fdA K 712) := T.fd 80 (d := (712, tD "_law_is_weights" 111 [])) rfl
theorem b_law_is_weights (T : Tx K mg) : Binds K (fdA K 712) ["_law_shuts", "_law_shut", "_law_paper"] [] := (f_law_is_weights T).bindsN fun _ _ _ _ _ _ us hl => match us, hl with | [_, _, _], _ => by kernel_rfl
theorem f_law_values (T : Tx K mg) : FunD K "_law_values" "_law_values" (defArgs (top 112)) (defBody (top 112)) (defScope (top 112)) [] [] 719 (fdA K 719) := T.fd 81 (d := (719, tD "_law_values" 112 [])) rfl
theorem b_law_values (T : Tx K mg) : Binds K (fdA K 719) ["_law_program"] [] := (f_law_values T).bindsN fun _ _ _ _ _ _ us hl => match us, hl with | [_], _ => by kernel_rfl
theorem f_law_is_paper (T : Tx K mg) : FunD K "_law_is_paper" "_law_is_paper" (defArgs (top 113)) (defBody (top 113)) (defScope (top 113)) [] [] 724 (fdA K 724) := T.fd 82 (d := (724, tD "_law_is_paper" 113 [])) rfl
theorem b_law_is_paper (T : Tx K mg) : Binds K (fdA K 724) ["_law_one", "_law_other", "_law_thing"] [] := (f_law_is_paper T).bindsN fun _ _ _ _ _ _ us hl => match us, hl with | [_, _, _], _ => by kernel_rfl
theorem f_law_all_given (T : Tx K mg) : FunD K "_law_all_given" "_law_all_given" (defArgs (top 114)) (defBody (top 114)) (defScope (top 114)) [] [] 729 (fdA K 729) := T.fd 83 (d := (729, tD "_law_all_given" 114 [])) rfl
theorem b_law_all_given (T : Tx K mg) : Binds K (fdA K 729) ["_law_program", "_law_bound", "_law_most"] [] := (f_law_all_given T).bindsN fun _ _ _ _ _ _ us hl => match us, hl with | [_, _, _], _ => by kernel_rfl
theorem f_law_are_short (T : Tx K mg) : FunD K "_law_are_short" "_law_are_short" (defArgs (top 115)) (defBody (top 115)) (defScope (top 115)) [] [] 734 (fdA K 734) := T.fd 84 (d := (734, tD "_law_are_short" 115 [])) rfl
theorem b_law_are_short (T : Tx K mg) : Binds K (fdA K 734) ["_law_thing"] [] := (f_law_are_short T).bindsN fun _ _ _ _ _ _ us hl => match us, hl with | [_], _ => by kernel_rfl
theorem f_law_is_kind_right (T : Tx K mg) : FunD K "_law_is_kind_right" "_law_is_kind_right" (defArgs (top 116)) (defBody (top 116)) (defScope (top 116)) [] [] 739 (fdA K 739) := T.fd 85 (d := (739, tD "_law_is_kind_right" 116 [])) rfl
theorem b_law_is_kind_right (T : Tx K mg) : Binds K (fdA K 739) ["_law_deck_here", "_law_one", "_law_other", "_law_told"] [] := (f_law_is_kind_right T).bindsN fun _ _ _ _ _ _ us hl => match us, hl with | [_, _, _, _], _ => by kernel_rfl
theorem f_law (T : Tx K mg) : FunD K "law" "law" (defArgs (top 117)) (defBody (top 117)) (defScope (top 117)) [] [] 744 (fdA K 744) := T.fd 86 (d := (744, tD "law" 117 [])) rfl
theorem b_law (T : Tx K mg) : Binds K (fdA K 744) ["_law_script"] [] := (f_law T).bindsN fun _ _ _ _ _ _ us hl => match us, hl with | [_], _ => by kernel_rfl
theorem g_solved (T : Tx K mg) : mg "solved" = some (.ref 220) := T.glo 0 ("solved", 220) rfl
theorem g_is_integer (T : Tx K mg) : mg "is_integer" = some (.ref 227) := T.glo 1 ("is_integer", 227) rfl
theorem g_is_between (T : Tx K mg) : mg "is_between" = some (.ref 234) := T.glo 2 ("is_between", 234) rfl
theorem g_is_row_of (T : Tx K mg) : mg "is_row_of" = some (.ref 239) := T.glo 3 ("is_row_of", 239) rfl
theorem g_value_at (T : Tx K mg) : mg "value_at" = some (.ref 244) := T.glo 4 ("value_at", 244) rfl
theorem g_bound_wall (T : Tx K mg) : mg "bound_wall" = some (.ref 251) := T.glo 5 ("bound_wall", 251) rfl
theorem g_divided (T : Tx K mg) : mg "divided" = some (.ref 256) := T.glo 6 ("divided", 256) rfl
theorem g_columns_for (T : Tx K mg) : mg "columns_for" = some (.ref 261) := T.glo 7 ("columns_for", 261) rfl
theorem g_paper_of (T : Tx K mg) : mg "paper_of" = some (.ref 268) := T.glo 8 ("paper_of", 268) rfl
theorem g_unit_paper (T : Tx K mg) : mg "unit_paper" = some (.ref 273) := T.glo 9 ("unit_paper", 273) rfl
theorem g_followed (T : Tx K mg) : mg "followed" = some (.ref 278) := T.glo 10 ("followed", 278) rfl
theorem g_are_weights (T : Tx K mg) : mg "are_weights" = some (.ref 283) := T.glo 11 ("are_weights", 283) rfl
theorem g_is_paper (T : Tx K mg) : mg "is_paper" = some (.ref 288) := T.glo 12 ("is_paper", 288) rfl
theorem g_is_name_value (T : Tx K mg) : mg "is_name_value" = some (.ref 295) := T.glo 13 ("is_name_value", 295) rfl
theorem g_is_kind_value (T : Tx K mg) : mg "is_kind_value" = some (.ref 302) := T.glo 14 ("is_kind_value", 302) rfl
theorem g_fits_kind (T : Tx K mg) : mg "fits_kind" = some (.ref 309) := T.glo 15 ("fits_kind", 309) rfl
theorem g_has_name (T : Tx K mg) : mg "has_name" = some (.ref 316) := T.glo 16 ("has_name", 316) rfl
theorem g_are_ins_value (T : Tx K mg) : mg "are_ins_value" = some (.ref 323) := T.glo 17 ("are_ins_value", 323) rfl
theorem g_is_fact_value (T : Tx K mg) : mg "is_fact_value" = some (.ref 330) := T.glo 18 ("is_fact_value", 330) rfl
theorem g_are_facts_value (T : Tx K mg) : mg "are_facts_value" = some (.ref 335) := T.glo 19 ("are_facts_value", 335) rfl
theorem g_is_if (T : Tx K mg) : mg "is_if" = some (.ref 342) := T.glo 20 ("is_if", 342) rfl
theorem g_items_in (T : Tx K mg) : mg "items_in" = some (.ref 347) := T.glo 21 ("items_in", 347) rfl
theorem g_has_right_side (T : Tx K mg) : mg "has_right_side" = some (.ref 354) := T.glo 22 ("has_right_side", 354) rfl
theorem g_is_giving (T : Tx K mg) : mg "is_giving" = some (.ref 361) := T.glo 23 ("is_giving", 361) rfl
theorem g_first_wrong (T : Tx K mg) : mg "first_wrong" = some (.ref 368) := T.glo 24 ("first_wrong", 368) rfl
theorem g_places_in (T : Tx K mg) : mg "places_in" = some (.ref 375) := T.glo 25 ("places_in", 375) rfl
theorem g_fault_of (T : Tx K mg) : mg "fault_of" = some (.ref 385) := T.glo 26 ("fault_of", 385) rfl
theorem g_is_program_value (T : Tx K mg) : mg "is_program_value" = some (.ref 392) := T.glo 27 ("is_program_value", 392) rfl
theorem g_need_program (T : Tx K mg) : mg "need_program" = some (.ref 399) := T.glo 28 ("need_program", 399) rfl
theorem g_is_bound_value (T : Tx K mg) : mg "is_bound_value" = some (.ref 406) := T.glo 29 ("is_bound_value", 406) rfl
theorem g_is_given_value (T : Tx K mg) : mg "is_given_value" = some (.ref 411) := T.glo 30 ("is_given_value", 411) rfl
theorem g_need_given (T : Tx K mg) : mg "need_given" = some (.ref 418) := T.glo 31 ("need_given", 418) rfl
theorem g_has_word (T : Tx K mg) : mg "has_word" = some (.ref 425) := T.glo 32 ("has_word", 425) rfl
theorem g_unit_form (T : Tx K mg) : mg "unit_form" = some (.ref 430) := T.glo 33 ("unit_form", 430) rfl
theorem g_form_sum (T : Tx K mg) : mg "form_sum" = some (.ref 436) := T.glo 34 ("form_sum", 436) rfl
theorem g_form_times (T : Tx K mg) : mg "form_times" = some (.ref 441) := T.glo 35 ("form_times", 441) rfl
theorem g_kind_walls (T : Tx K mg) : mg "kind_walls" = some (.ref 448) := T.glo 36 ("kind_walls", 448) rfl
theorem g_fact_wall (T : Tx K mg) : mg "fact_wall" = some (.ref 453) := T.glo 37 ("fact_wall", 453) rfl
theorem g_input_walls (T : Tx K mg) : mg "input_walls" = some (.ref 458) := T.glo 38 ("input_walls", 458) rfl
theorem g_ground_walls (T : Tx K mg) : mg "ground_walls" = some (.ref 465) := T.glo 39 ("ground_walls", 465) rfl
theorem g_with_value (T : Tx K mg) : mg "with_value" = some (.ref 479) := T.glo 40 ("with_value", 479) rfl
theorem g_given_states (T : Tx K mg) : mg "given_states" = some (.ref 500) := T.glo 41 ("given_states", 500) rfl
theorem g_statements_in (T : Tx K mg) : mg "statements_in" = some (.ref 505) := T.glo 42 ("statements_in", 505) rfl
theorem g_states_behind (T : Tx K mg) : mg "states_behind" = some (.ref 519) := T.glo 43 ("states_behind", 519) rfl
theorem g_ways_list (T : Tx K mg) : mg "ways_list" = some (.ref 524) := T.glo 44 ("ways_list", 524) rfl
theorem g_room_ahead (T : Tx K mg) : mg "room_ahead" = some (.ref 531) := T.glo 45 ("room_ahead", 531) rfl
theorem g_whole_room (T : Tx K mg) : mg "whole_room" = some (.ref 538) := T.glo 46 ("whole_room", 538) rfl
theorem g_is_single_value (T : Tx K mg) : mg "is_single_value" = some (.ref 544) := T.glo 47 ("is_single_value", 544) rfl
theorem g_need_two (T : Tx K mg) : mg "need_two" = some (.ref 551) := T.glo 48 ("need_two", 551) rfl
theorem g_value_walls (T : Tx K mg) : mg "value_walls" = some (.ref 558) := T.glo 49 ("value_walls", 558) rfl
theorem g_judge_never_more (T : Tx K mg) : mg "judge_never_more" = some (.ref 565) := T.glo 50 ("judge_never_more", 565) rfl
theorem g_is_point_of (T : Tx K mg) : mg "is_point_of" = some (.ref 572) := T.glo 51 ("is_point_of", 572) rfl
theorem g_keeps_all (T : Tx K mg) : mg "keeps_all" = some (.ref 577) := T.glo 52 ("keeps_all", 577) rfl
theorem g_never_more_holds (T : Tx K mg) : mg "never_more_holds" = some (.ref 582) := T.glo 53 ("never_more_holds", 582) rfl
theorem g_reckoned (T : Tx K mg) : mg "reckoned" = some (.ref 589) := T.glo 54 ("reckoned", 589) rfl
theorem g_gone_through (T : Tx K mg) : mg "gone_through" = some (.ref 596) := T.glo 55 ("gone_through", 596) rfl
theorem g_traced (T : Tx K mg) : mg "traced" = some (.ref 603) := T.glo 56 ("traced", 603) rfl
theorem g_ran (T : Tx K mg) : mg "ran" = some (.ref 608) := T.glo 57 ("ran", 608) rfl
theorem g_run (T : Tx K mg) : mg "run" = some (.ref 615) := T.glo 58 ("run", 615) rfl
theorem g__law_deck (T : Tx K mg) : mg "_law_deck" = some (.ref 620) := T.glo 59 ("_law_deck", 620) rfl
theorem g__law_draw (T : Tx K mg) : mg "_law_draw" = some (.ref 627) := T.glo 60 ("_law_draw", 627) rfl
theorem g__law_pick (T : Tx K mg) : mg "_law_pick" = some (.ref 634) := T.glo 61 ("_law_pick", 634) rfl
theorem g__law_kind (T : Tx K mg) : mg "_law_kind" = some (.ref 641) := T.glo 62 ("_law_kind", 641) rfl
theorem g__law_inputs (T : Tx K mg) : mg "_law_inputs" = some (.ref 648) := T.glo 63 ("_law_inputs", 648) rfl
theorem g__law_single (T : Tx K mg) : mg "_law_single" = some (.ref 653) := T.glo 64 ("_law_single", 653) rfl
theorem g__law_far (T : Tx K mg) : mg "_law_far" = some (.ref 660) := T.glo 65 ("_law_far", 660) rfl
theorem g__law_given (T : Tx K mg) : mg "_law_given" = some (.ref 665) := T.glo 66 ("_law_given", 665) rfl
theorem g__law_forms (T : Tx K mg) : mg "_law_forms" = some (.ref 670) := T.glo 67 ("_law_forms", 670) rfl
theorem g__law_two (T : Tx K mg) : mg "_law_two" = some (.ref 675) := T.glo 68 ("_law_two", 675) rfl
theorem g__law_room (T : Tx K mg) : mg "_law_room" = some (.ref 680) := T.glo 69 ("_law_room", 680) rfl
theorem g__law_at (T : Tx K mg) : mg "_law_at" = some (.ref 685) := T.glo 70 ("_law_at", 685) rfl
theorem g__law_is_small (T : Tx K mg) : mg "_law_is_small" = some (.ref 690) := T.glo 71 ("_law_is_small", 690) rfl
theorem g__law_same_ins (T : Tx K mg) : mg "_law_same_ins" = some (.ref 695) := T.glo 72 ("_law_same_ins", 695) rfl
theorem g__law_is_integer (T : Tx K mg) : mg "_law_is_integer" = some (.ref 702) := T.glo 73 ("_law_is_integer", 702) rfl
theorem g__law_are_integers (T : Tx K mg) : mg "_law_are_integers" = some (.ref 707) := T.glo 74 ("_law_are_integers", 707) rfl
theorem g__law_is_weights (T : Tx K mg) : mg "_law_is_weights" = some (.ref 712) := T.glo 75 ("_law_is_weights", 712) rfl
theorem g__law_values (T : Tx K mg) : mg "_law_values" = some (.ref 719) := T.glo 76 ("_law_values", 719) rfl
theorem g__law_is_paper (T : Tx K mg) : mg "_law_is_paper" = some (.ref 724) := T.glo 77 ("_law_is_paper", 724) rfl
theorem g__law_all_given (T : Tx K mg) : mg "_law_all_given" = some (.ref 729) := T.glo 78 ("_law_all_given", 729) rfl
theorem g__law_are_short (T : Tx K mg) : mg "_law_are_short" = some (.ref 734) := T.glo 79 ("_law_are_short", 734) rfl
theorem g__law_is_kind_right (T : Tx K mg) : mg "_law_is_kind_right" = some (.ref 739) := T.glo 80 ("_law_is_kind_right", 739) rfl
theorem g_law (T : Tx K mg) : mg "law" = some (.ref 744) := T.glo 81 ("law", 744) rfl
theorem g_Table (T : Tx K mg) : mg "Table" = some (.ref 211) := T.glo 82 ("Table", 211) rfl
theorem g_RESERVED (T : Tx K mg) : mg "RESERVED" = some (.ref 289) := T.glo 83 ("RESERVED", 289) rfl
theorem g_PAIRED (T : Tx K mg) : mg "PAIRED" = some (.ref 290) := T.glo 84 ("PAIRED", 290) rfl
theorem g_LINES (T : Tx K mg) : mg "LINES" = some (.ref 539) := T.glo 85 ("LINES", 539) rfl
theorem free_abs (T : Tx K mg) : mg "abs" = none := T.free 0 "abs" rfl
theorem free_all (T : Tx K mg) : mg "all" = none := T.free 1 "all" rfl
theorem free_bool (T : Tx K mg) : mg "bool" = none := T.free 2 "bool" rfl
theorem free_dict (T : Tx K mg) : mg "dict" = none := T.free 3 "dict" rfl
theorem free_enumerate (T : Tx K mg) : mg "enumerate" = none := T.free 4 "enumerate" rfl
theorem free_int (T : Tx K mg) : mg "int" = none := T.free 5 "int" rfl
theorem free_isinstance (T : Tx K mg) : mg "isinstance" = none := T.free 6 "isinstance" rfl
theorem free_len (T : Tx K mg) : mg "len" = none := T.free 7 "len" rfl
theorem free_list (T : Tx K mg) : mg "list" = none := T.free 8 "list" rfl
theorem free_max (T : Tx K mg) : mg "max" = none := T.free 9 "max" rfl
theorem free_min (T : Tx K mg) : mg "min" = none := T.free 10 "min" rfl
theorem free_range (T : Tx K mg) : mg "range" = none := T.free 11 "range" rfl
theorem free_sorted (T : Tx K mg) : mg "sorted" = none := T.free 12 "sorted" rfl
theorem free_str (T : Tx K mg) : mg "str" = none := T.free 13 "str" rfl
theorem free_sum (T : Tx K mg) : mg "sum" = none := T.free 14 "sum" rfl
theorem free_tuple (T : Tx K mg) : mg "tuple" = none := T.free 15 "tuple" rfl
theorem free_zip (T : Tx K mg) : mg "zip" = none := T.free 16 "zip" rfl
theorem int_LONGEST_NAME (T : Tx K mg) : ∃ t, mg "LONGEST_NAME" = some (.int 8 t) := T.intc 0 ("LONGEST_NAME", 8) rfl
theorem int_MOST_KIND (T : Tx K mg) : ∃ t, mg "MOST_KIND" = some (.int 30 t) := T.intc 1 ("MOST_KIND", 30) rfl
theorem int_MOST_INPUTS (T : Tx K mg) : ∃ t, mg "MOST_INPUTS" = some (.int 6 t) := T.intc 2 ("MOST_INPUTS", 6) rfl
theorem int_MOST_FACTS (T : Tx K mg) : ∃ t, mg "MOST_FACTS" = some (.int 6 t) := T.intc 3 ("MOST_FACTS", 6) rfl
theorem int_MOST_STATEMENTS (T : Tx K mg) : ∃ t, mg "MOST_STATEMENTS" = some (.int 24 t) := T.intc 4 ("MOST_STATEMENTS", 24) rfl
theorem int_MOST_OUTS (T : Tx K mg) : ∃ t, mg "MOST_OUTS" = some (.int 4 t) := T.intc 5 ("MOST_OUTS", 4) rfl
theorem int_MOST_FACTOR (T : Tx K mg) : ∃ t, mg "MOST_FACTOR" = some (.int 12 t) := T.intc 6 ("MOST_FACTOR", 12) rfl
theorem int_MOST_WAYS (T : Tx K mg) : ∃ t, mg "MOST_WAYS" = some (.int 32 t) := T.intc 7 ("MOST_WAYS", 32) rfl
theorem str_LETTERS (T : Tx K mg) : ∃ t, mg "LETTERS" = some (.str "abcdefghijklmnopqrstuvwxyz" t) := T.ltr
end
end K28
end
section
set_option Elab.async false
set_option linter.all false
set_option maxRecDepth 100000
set_option maxHeartbeats 0
/-! a head whose top imports: the opening is run in the kernel, then the top off a tree -/
noncomputable section
namespace K28
open PySem PySem.W PySem.Calls PyProof.Rows HandSHeadRun
/-- the opening's end, and the top's end off a tree -/
def endI (st : SharedT → Thread → Option (SharedT × Thread)) (M : Nat) (p : Program) (w : World) : Option (Shared × SharedT) :=
  match fencedOpening treeTable p w M with
  | none => none
  | some z => match putAll z.heap.objs.toList .nil 0 with
    | none => none
    | some r => (frNat r.2 fun n => goF st n (z.heap.nsMap mainGlobals "__annotations__") M ⟨r.1, n, z.heap.life, z.gens, z.drawn, z.toks, z.os⟩ (topStub p)).map fun s => (z, s)
def looksI (p : Program) (z s : Shared) : Bool := (z.heap.isNs mainGlobals && z.gens.size == 0) && looksF p z.heap s
theorem endI_ok {M : Nat} {p : Program} {w : World} {z : Shared} {s : SharedT} (h : endI (stepT (denote treeTable) p w) M p w = some (z, s)) :
    fencedOpening treeTable p w M = some z ∧ topRun treeTable p w z.heap.objs.size (z.heap.nsMap mainGlobals "__annotations__") M z (topStub p) = some s.abs := by
  unfold endI at h
  cases e : fencedOpening treeTable p w M with
  | none => rw [e] at h; cases h
  | some z' =>
    rw [e] at h
    have h1 : (match putAll z'.heap.objs.toList .nil 0 with
      | none => none
      | some r => (frNat r.2 fun n => goF (stepT (denote treeTable) p w) n (z'.heap.nsMap mainGlobals "__annotations__") M ⟨r.1, n, z'.heap.life, z'.gens, z'.drawn, z'.toks, z'.os⟩ (topStub p)).map fun s => (z', s)) = some (z, s) := h
    cases e2 : putAll z'.heap.objs.toList .nil 0 with
    | none => rw [e2] at h1; cases h1
    | some r =>
      obtain ⟨t, n⟩ := r
      rw [e2] at h1
      have h2 : (frNat n fun n => goF (stepT (denote treeTable) p w) n (z'.heap.nsMap mainGlobals "__annotations__") M ⟨t, n, z'.heap.life, z'.gens, z'.drawn, z'.toks, z'.os⟩ (topStub p)).map (fun s => (z', s)) = some (z, s) := h1
      rw [frNat_eq] at h2
      obtain ⟨s1, h3, h4⟩ := Option.map_eq_some_iff.mp h2
      obtain ⟨q1, q2⟩ := Prod.mk.inj h4
      subst q1 q2
      have q := goF_ok h3
      have eh := putAll_heap e2
      have en : z'.heap.objs.size = n := by
        rw [← eh]
        exact absHeap_size t n _
      have ea : (⟨t, n, z'.heap.life, z'.gens, z'.drawn, z'.toks, z'.os⟩ : SharedT).abs = z' := by
        show (⟨absHeap t n z'.heap.life, z'.gens, z'.drawn, z'.toks, z'.os⟩ : Shared) = z'
        rw [eh]
      rw [ea] at q
      rw [en]
      exact ⟨rfl, q⟩
theorem left_imp {p q : Program} {loose : List Str} {Xt : Shared → Bool} {α : Type} {Yf : Shared → α} {Ya : World → α} {M : Nat}
    (run : ∀ w : World, (endI (stepT (denote treeTable) p w) M p w).map (fun x => (looksI p x.1 x.2.abs, openSeen q loose (importedModules p.main.body) Xt true x.2.abs, Yf x.2.abs)) = some (true, openGood q loose, Ya w)) :
    LeftO p q loose Xt Yf Ya M true := fun w => by
  obtain ⟨⟨z, s⟩, hs, hv⟩ := Option.map_eq_some_iff.mp (run w)
  obtain ⟨l1, l23⟩ := Prod.mk.inj hv
  obtain ⟨l2, l3⟩ := Prod.mk.inj l23
  obtain ⟨a, r⟩ := endI_ok hs
  obtain ⟨x1, x2⟩ := Bool.and_eq_true_iff.mp (show ((z.heap.isNs mainGlobals && z.gens.size == 0) && looksF p z.heap s.abs) = true from l1)
  have t : topFrom treeTable p w M z = some s.abs := by
    unfold topFrom
    rw [x1]
    show (topRun treeTable p w z.heap.objs.size (z.heap.nsMap mainGlobals "__annotations__") M z (topStub p)).bind _ = _
    rw [r]
    have x3 : (staticsOk (importedModules p.main.body) z.heap s.abs.heap && namesBound p s.abs.heap && gensDone s.abs && laidKept z.heap s.abs.heap) = true := x2
    show (match staticsOk (importedModules p.main.body) z.heap s.abs.heap && namesBound p s.abs.heap && gensDone s.abs && laidKept z.heap s.abs.heap with | true => some s.abs | false => none) = _
    rw [x3]
  unfold openEnds
  rw [a]
  show (topFrom treeTable p w M z).map _ = _
  rw [t]
  exact congrArg some (Prod.ext l2 l3)
theorem endIQ_eq (M : Nat) (p : Program) (w : World) : endI (stepT (denote treeTable) p w) M p w = endI (stepQ (denQ tabQ) p w) M p w := by
  rw [stepQ_eq, denQ_eq, tabQ_eq]
/-- the run's equation -/
def RunI (r : OpenRow) (q : Program) (H : Hook) (ob : SharedT → H.α) (M : Nat) (loose : List PySem.Str) (w : World) : Prop :=
  (endI (stepQ (denQ tabQ) r.prog w) M r.prog w).map (fun x => (looksI r.prog x.1 x.2.abs, seenQ q loose (importedModules r.prog.main.body) (fun s => xlAt q [] s && recOk r.toRowW.records s) x.2.abs, ob x.2)) = some (true, openGood q loose, H.val w)
theorem head_imp {r : OpenRow} {q : Program} {H : Hook} {ob : SharedT → H.α} {M : Nat} {loose : List PySem.Str} {d : DefRec} {kwd : List (PySem.Str × PySem.Expr)} (ho : ∀ s : SharedT, ob s = H.obs s.abs)
    (run : ∀ w, RunI r q H ob M loose w)
    (hdef : defOf q r.name = some (d, kwd)) (hp : r.prog.theDef r.name = some (d.params, d.body, d.scope)) (hk : kwWritten? d.params.kwonlyargs d.params.kw_defaults = some kwd)
    (hwr : (!r.writes || r.records.isEmpty) = true) (k1 : r.wellSaid = true) (ok : (chainsOk q && opensWell r.prog && (frees r.toRowW && r.within.isEmpty)) = true) (hb : r.prog.bare) (hw : r.toRowW.promised)
    (call : WalkO q loose (XL q []) H.says r.toRowW d kwd fun f vs => PySem.call f vs) : r.Holds := by
  have left : LeftO r.prog q loose (fun s => xlAt q [] s && recOk r.toRowW.records s) H.obs H.val M true := left_imp fun w => by
    have z := run w
    have eo : ob = fun s => H.obs s.abs := funext ho
    unfold RunI at z
    rw [eo] at z
    simp only [endIQ_eq, seenQ_eq]
    exact z
  exact holds_open (r := r) (q := q) (loose := loose) (XP := XL q []) (YP := H.says) (d := d) (kwd := kwd) left H.of H.keeps (fun s z => xl_of s (Bool.and_eq_true_iff.mp z).1) XL.keeps hdef hp hk (fun s z => recFacts_of (Bool.and_eq_true_iff.mp z).2) hwr k1 ok hb hw call
end K28
end
end
section
set_option Elab.async false
set_option linter.all false
set_option maxRecDepth 100000
set_option maxHeartbeats 0
/-! the head's run: what stands behind the top -/
namespace K28
open PySem L2
/-- a def at its place -/
def fnAt (K : PySem.W.Frag) (a : Addr) : He.FnW := match K.lookup a with
  | some ⟨_, _, .func fd, _⟩ => some (fd.name, fd.qualname, fd.params, fd.body, fd.scope, fd.globals, fd.closure, fd.builtins)
  | _ => none
def okAt (K : PySem.W.Frag) (d : Addr × He.DefD) : Bool := PySem.W.keepIn K (.ref d.1) && (match K.lookup d.1 with
  | some ⟨_, _, .func fd, _⟩ => PySem.W.codeIn K fd.code d.2.qual && He.dflB K fd.defaults (d.2.dvs K)
  | _ => false)
theorem funD_at {K : PySem.W.Frag} {d : Addr × He.DefD} (e : fnAt K d.1 = d.2.val) (c : okAt K d = true) : ∃ fd, FunD K d.2.name d.2.qual d.2.params d.2.body d.2.scope (d.2.dvs K) [] d.1 fd := by
  obtain ⟨kp, c2⟩ := He.ba c
  unfold fnAt at e
  cases q : K.lookup d.1 with
  | none => rw [q] at c2; cases c2
  | some o =>
    obtain ⟨oc, od, dt, osl⟩ := o
    rw [q] at c2 e
    cases dt with
    | func fd =>
      obtain ⟨n1, n2, n3, n4, n5, n6, n7, n8, n9, n10, n11, n12, n13, n14, n15⟩ := fd
      have e2 : (some (n1, n2, n3, n4, n5, n6, n7, n15) : He.FnW) = some (d.2.name, d.2.qual, d.2.params, .stmts d.2.body, d.2.scope, mainGlobals, [], builtinsNs) := e
      simp only [Option.some.injEq, Prod.mk.injEq] at e2
      obtain ⟨h1, h2, h3, h4, h5, h6, h7, h8⟩ := e2
      subst h1 h2 h3 h4 h5 h6 h7 h8
      obtain ⟨k1, k2⟩ := He.ba (show (PySem.W.codeIn K n13 d.2.qual && He.dflB K n8 (d.2.dvs K)) = true from c2)
      exact ⟨_, ⟨oc, od, n8, n9, n10, n11, n12, n13, n14, osl, rfl, q, k1, He.dflB_ok k2, .inl rfl⟩, kp⟩
    | _ => cases c2
def clsFa : List He.Fa := [.cls "Table", .mkr "Table", .meth "Table" "leaving", .meth "Table" "pivot", .meth "Table" "less", .meth "Table" "entering", .noat "Table" "real", .noat "Table" "rows", .noat "Table" "cost", .noat "Table" "basis", .noat "Table" "divisor", .str "LETTERS" "abcdefghijklmnopqrstuvwxyz"]
def maL : List (Str × Addr) := [("__init__", 184), ("leaving", 191), ("pivot", 196), ("less", 201), ("entering", 208)]
def boolK (K : PySem.W.Frag) : Bool := (gloL.all fun q => He.eqO (PySem.W.nsIn K mainGlobals q.1) (some (some (.ref q.2)))) && ((freeL.all fun x => He.eqO (PySem.W.nsIn K mainGlobals x) (some none)) && ((intL.all fun q => (He.Fa.int q.1 q.2).ok K) &&
  (He.eqO (PySem.W.nsIn K mainGlobals "gcd") (some (some (.builtin "math.gcd"))) && ((clsFa.all fun f => f.ok K) && ((maL.all fun q => decide (He.ma K 211 q.1 = q.2)) && ((fnL.all fun d => okAt K d) &&
  (He.tupB K "RESERVED" [.str "in", .str "fact", .str "if", .str "else", .str "end", .str "out"] && (He.tupB K "PAIRED" [.str "plus", .str "minus", .str "least", .str "greatest"] && He.tupB K "LINES" [.str "plus", .str "minus", .str "times"]))))))))
def seesK (K : PySem.W.Frag) : Bool × List He.FnW := (boolK K, fnL.map fun d => fnAt K d.1)
def seesV : Bool × List He.FnW := (true, fnL.map fun d => d.2.val)
/-- the objects that are looked at -/
def asL : List Addr := PySem.mainGlobals :: 210 :: 211 :: 289 :: 290 :: 539 :: 431 :: (fnL.map fun d => d.1) ++ (fnL.map fun d => d.1 - 1)
def frK (g : Addr → Option Obj) : PySem.W.Frag := He.frG g asL
def hk : PySem.W.Hook where
  α := Bool × List He.FnW
  obs := fun s => seesK (frK s.heap.get?)
  val := fun _ => seesV
  says := fun _ h => ∃ K : PySem.W.Frag, K.In h ∧ seesK K = seesV
  of := fun _ _ e => ⟨_, He.frG_in, e⟩
  keeps := fun _ _ _ ⟨K, hK, c⟩ k => ⟨K, PySem.W.Frag.In.keeps hK k, c⟩
abbrev R : PySem.W.OpenRow := PySem.W.OpenLaw.row PySem.Challenge.rw_tripmeans_k28_whole_never_more_against_r
def ob (s : PySem.W.SharedT) : Bool × List He.FnW := seesK (frK (HandSHeadRun.getT s))
theorem ob_eq (s : PySem.W.SharedT) : ob s = hk.obs s.abs := congrArg (fun g => seesK (frK g)) (funext (HandSHeadRun.getT_eq s))
def qv : Program := PySem.W.view R.prog [117]
def loose : List Str := (PW.main.scope.names.filterMap fun p => if p.2 == .local && p.1 != ("__name__" : Str) && p.1 != ("law" : Str) then some p.1 else none)
theorem map3 {α A B C : Type} {o : Option α} {f : α → A} {g : α → B} {h : α → C} {a : A} {b : B} {c : C} (e1 : o.map f = some a) (e2 : o.map g = some b) (e3 : o.map h = some c) : o.map (fun x => (f x, g x, h x)) = some (a, b, c) := by
  cases o with
  | none => cases e1
  | some x =>
    have h1 : f x = a := Option.some.inj e1
    have h2 : g x = b := Option.some.inj e2
    have h3 : h x = c := Option.some.inj e3
    show some (f x, g x, h x) = _
    rw [h1, h2, h3]
section
open PySem.W PySem.Calls PyProof.Rows HandSHeadRun
theorem run_looks (w : World) : (endI (stepQ (denQ tabQ) R.prog w) 20000 R.prog w).map (fun x => looksI R.prog x.1 x.2.abs) = some true := by
  kernel_rfl
theorem run_seen (w : World) : (endI (stepQ (denQ tabQ) R.prog w) 20000 R.prog w).map (fun x => seenQ qv loose (importedModules R.prog.main.body) (fun s => xlAt qv [] s && recOk R.toRowW.records s) x.2.abs) = some (openGood qv loose) := by
  kernel_rfl
theorem run_sees (w : World) : (endI (stepQ (denQ tabQ) R.prog w) 20000 R.prog w).map (fun x => ob x.2) = some seesV := by
  kernel_rfl
end
theorem run (w : World) : RunI R qv hk ob 20000 loose w := map3 (run_looks w) (run_seen w) (run_sees w)
/-! what the walk asks, from the run -/
section
variable {K : PySem.W.Frag} {h : Heap} {mg : Str → Option Value}
theorem ga_lit {x : Str} {a : Addr} (e : PySem.W.nsIn K mainGlobals x = some (some (.ref a))) : He.ga K x = a := by
  unfold He.ga
  rw [e]
theorem tx_of (X : K.In h) (G : h.Ns mainGlobals mg) (c : seesK K = seesV) : Tx K mg := by
  have cb : boolK K = true := congrArg (fun z : Bool × List He.FnW => z.1) c
  have cl : (fnL.map fun d => fnAt K d.1) = fnL.map fun d => d.2.val := congrArg (fun z : Bool × List He.FnW => z.2) c
  obtain ⟨g1, cb⟩ := He.ba cb
  obtain ⟨g2, cb⟩ := He.ba cb
  obtain ⟨g3, cb⟩ := He.ba cb
  obtain ⟨g4, cb⟩ := He.ba cb
  obtain ⟨g5, cb⟩ := He.ba cb
  obtain ⟨g6, cb⟩ := He.ba cb
  obtain ⟨g7, cb⟩ := He.ba cb
  obtain ⟨t1, cb⟩ := He.ba cb
  obtain ⟨t2, t3⟩ := He.ba cb
  have glo : ∀ (i : Nat) (q : Str × Addr), gloL[i]? = some q → PySem.W.nsIn K mainGlobals q.1 = some (some (.ref q.2)) := fun i q e => He.eqO_ok (List.all_eq_true.mp g1 q (List.mem_of_getElem? e))
  have cf : ∀ (i : Nat) (f : He.Fa), clsFa[i]? = some f → f.ok K = true := fun i f e => List.all_eq_true.mp g5 f (List.mem_of_getElem? e)
  have ma : ∀ (i : Nat) (q : Str × Addr), maL[i]? = some q → He.ma K 211 q.1 = q.2 := fun i q e => of_decide_eq_true (List.all_eq_true.mp g6 q (List.mem_of_getElem? e))
  have gT : He.ga K "Table" = 211 := ga_lit (glo 82 ("Table", 211) rfl)
  have gR : He.ga K "RESERVED" = 289 := ga_lit (glo 83 ("RESERVED", 289) rfl)
  have gP : He.ga K "PAIRED" = 290 := ga_lit (glo 84 ("PAIRED", 290) rfl)
  have gL : He.ga K "LINES" = 539 := ga_lit (glo 85 ("LINES", 539) rfl)
  refine { fn := fun i d e => ?_, glo := fun i q e => PySem.W.mg_of X G (glo i q e), free := fun i x e => PySem.W.mg_none_of X G (He.eqO_ok (List.all_eq_true.mp g2 x (List.mem_of_getElem? e))), intc := fun i q e => He.int_ok X G (List.all_eq_true.mp g3 q (List.mem_of_getElem? e)), ltr := He.str_ok X G (cf 11 _ rfl), gcd := PySem.W.mg_of X G (He.eqO_ok g4), tup_RESERVED := fun H => ?_, tup_PAIRED := fun H => ?_, tup_LINES := fun H => ?_, cls := ?_, mkc := ?_, m_leaving := ?_, m_pivot := ?_, m_less := ?_, m_entering := ?_, no_real := ?_, no_rows := ?_, no_cost := ?_, no_basis := ?_, no_divisor := ?_ }
  · refine funD_at ?_ (List.all_eq_true.mp g7 d (List.mem_of_getElem? e))
    have e2 : (fnL.map fun d => fnAt K d.1)[i]? = (fnL.map fun d => d.2.val)[i]? := by rw [cl]
    rw [List.getElem?_map, List.getElem?_map, e] at e2
    exact Option.some.inj e2
  · have := He.tupB_ok t1 H
    rw [gR] at this
    exact this
  · have := He.tupB_ok t2 H
    rw [gP] at this
    exact this
  · have := He.tupB_ok t3 H
    rw [gL] at this
    exact this
  · have := He.cls_ok (cf 0 _ rfl)
    rw [gT] at this
    exact this
  · have := He.mkr_ok (cf 1 _ rfl)
    rw [gT, ma 0 ("__init__", 184) rfl] at this
    exact this
  · have := He.meth_ok (cf 2 _ rfl)
    rw [gT, ma 1 ("leaving", 191) rfl] at this
    exact this
  · have := He.meth_ok (cf 3 _ rfl)
    rw [gT, ma 2 ("pivot", 196) rfl] at this
    exact this
  · have := He.meth_ok (cf 4 _ rfl)
    rw [gT, ma 3 ("less", 201) rfl] at this
    exact this
  · have := He.meth_ok (cf 5 _ rfl)
    rw [gT, ma 4 ("entering", 208) rfl] at this
    exact this
  · have := He.noat_ok (cf 6 _ rfl)
    rw [gT] at this
    exact this
  · have := He.noat_ok (cf 7 _ rfl)
    rw [gT] at this
    exact this
  · have := He.noat_ok (cf 8 _ rfl)
    rw [gT] at this
    exact this
  · have := He.noat_ok (cf 9 _ rfl)
    rw [gT] at this
    exact this
  · have := He.noat_ok (cf 10 _ rfl)
    rw [gT] at this
    exact this
end
end K28
end
section
set_option Elab.async false
set_option maxRecDepth 100000
namespace K28
/-! finite sums -/
def sN : Nat → (Nat → Int) → Int
  | 0, _ => 0
  | n + 1, f => sN n f + f n
theorem sN_congr {n : Nat} {f g : Nat → Int} (h : ∀ k, k < n → f k = g k) : sN n f = sN n g := by
  induction n with
  | zero => rfl
  | succ n ih =>
    show sN n f + f n = sN n g + g n
    rw [ih fun k hk => h k (by omega), h n (by omega)]
theorem sN_add (n : Nat) (f g : Nat → Int) : sN n (fun k => f k + g k) = sN n f + sN n g := by
  induction n with
  | zero => rfl
  | succ n ih =>
    show sN n (fun k => f k + g k) + (f n + g n) = (sN n f + f n) + (sN n g + g n)
    rw [ih]; omega
theorem sN_mul (n : Nat) (a : Int) (f : Nat → Int) : sN n (fun k => a * f k) = a * sN n f := by
  induction n with
  | zero => show (0 : Int) = a * 0; rw [Int.mul_zero]
  | succ n ih =>
    show sN n (fun k => a * f k) + a * f n = a * (sN n f + f n)
    rw [ih, Int.mul_add]
theorem sN_zero {n : Nat} {f : Nat → Int} (h : ∀ k, k < n → f k = 0) : sN n f = 0 := by
  induction n with
  | zero => rfl
  | succ n ih =>
    show sN n f + f n = 0
    rw [ih fun k hk => h k (by omega), h n (by omega)]; rfl
theorem sN_one {n i : Nat} {f : Nat → Int} (hi : i < n) (h : ∀ k, k < n → k ≠ i → f k = 0) : sN n f = f i := by
  induction n with
  | zero => omega
  | succ n ih =>
    show sN n f + f n = f i
    by_cases e : i = n
    · subst e
      rw [sN_zero fun k hk => h k (by omega) (by omega)]; omega
    · rw [ih (by omega) fun k hk ne => h k (by omega) ne, h n (by omega) (by omega)]; omega
theorem sN_two {n i j : Nat} {f : Nat → Int} (hi : i < n) (hj : j < n) (ne : i ≠ j) (h : ∀ k, k < n → k ≠ i → k ≠ j → f k = 0) : sN n f = f i + f j := by
  have e1 : sN n f = sN n (fun k => (if k = i then f k else 0) + (if k = i then 0 else f k)) := sN_congr fun k _ => by
    by_cases e : k = i <;> simp [e]
  rw [e1, sN_add, sN_one (i := i) hi (fun k _ e => by simp [e]), sN_one (i := j) hj (fun k hk e => by
    by_cases e2 : k = i
    · simp [e2]
    · simp [e2]; exact h k hk e2 e)]
  have : ¬ j = i := fun q => ne q.symm
  simp [this]
theorem sN_swap (n m : Nat) (f : Nat → Nat → Int) : sN n (fun i => sN m (fun j => f i j)) = sN m (fun j => sN n (fun i => f i j)) := by
  induction n with
  | zero => exact (sN_zero fun _ _ => rfl).symm
  | succ n ih =>
    show sN n (fun i => sN m (fun j => f i j)) + sN m (fun j => f n j) = sN m (fun j => sN n (fun i => f i j) + f n j)
    rw [ih, sN_add]
theorem sN_le {n : Nat} {f g : Nat → Int} (h : ∀ k, k < n → f k ≤ g k) : sN n f ≤ sN n g := by
  induction n with
  | zero => exact Int.le_refl _
  | succ n ih =>
    have a := ih fun k hk => h k (by omega)
    have b := h n (by omega)
    show sN n f + f n ≤ sN n g + g n
    omega
theorem sN_nonneg {n : Nat} {f : Nat → Int} (h : ∀ k, k < n → 0 ≤ f k) : 0 ≤ sN n f := by
  have := sN_le (f := fun _ => 0) h
  rwa [sN_zero fun _ _ => rfl] at this
/-- a positive sum has a positive term -/
theorem sN_pos {n : Nat} {f : Nat → Int} (h : 0 < sN n f) : ∃ k, k < n ∧ 0 < f k := by
  induction n with
  | zero => exact absurd h (Int.lt_irrefl 0)
  | succ n ih =>
    by_cases e : 0 < f n
    · exact ⟨n, by omega, e⟩
    · have h' : 0 < sN n f + f n := h
      obtain ⟨k, hk, p⟩ := ih (by omega)
      exact ⟨k, by omega, p⟩
/-- nonnegative terms of sum 0 -/
theorem sN_eq_zero {n : Nat} {f : Nat → Int} (h : ∀ k, k < n → 0 ≤ f k) (e : sN n f = 0) : ∀ k, k < n → f k = 0 := by
  induction n with
  | zero => intro k hk; omega
  | succ n ih =>
    have a : 0 ≤ sN n f := sN_nonneg fun k hk => h k (by omega)
    have b := h n (by omega)
    have c : sN n f + f n = 0 := e
    intro k hk
    by_cases q : k = n
    · subst q; omega
    · exact ih (fun k hk => h k (by omega)) (by omega) k (by omega)
/-! determinants: M k x, column k, coordinate x -/
abbrev Mat := Nat → Nat → Int
def skip (k l : Nat) : Nat := if l < k then l else l + 1
def minor (M : Mat) (k : Nat) : Mat := fun l x => M (skip k l) (x + 1)
def sg (k : Nat) : Int := if k % 2 = 0 then 1 else -1
theorem sg_succ (k : Nat) : sg (k + 1) = - sg k := by
  unfold sg
  by_cases h : k % 2 = 0
  · rw [if_pos h, if_neg (by omega)]
  · rw [if_neg h, if_pos (by omega)]; rfl
def det : Nat → Mat → Int
  | 0, _ => 1
  | n + 1, M => sN (n + 1) fun k => sg k * (M k 0 * det n (minor M k))
theorem det_congr : ∀ (n : Nat) {M M' : Mat}, (∀ k x, k < n → x < n → M k x = M' k x) → det n M = det n M'
  | 0, _, _, _ => rfl
  | n + 1, M, M', h => sN_congr fun k hk => by
    rw [h k 0 hk (by omega), det_congr n (M := minor M k) (M' := minor M' k) fun l x hl hx => by
      unfold minor skip
      split
      · exact h _ _ (by omega) (by omega)
      · exact h _ _ (by omega) (by omega)]
/-- column i replaced -/
def rep (M : Mat) (i : Nat) (v : Nat → Int) : Mat := fun k => if k = i then v else M k
theorem rep_same {M : Mat} {i : Nat} {v : Nat → Int} : rep M i v i = v := if_pos rfl
theorem rep_ne {M : Mat} {i k : Nat} {v : Nat → Int} (h : k ≠ i) : rep M i v k = M k := if_neg h
theorem rep_self {M : Mat} {i : Nat} : rep M i (M i) = M := by
  funext k
  by_cases h : k = i
  · rw [h, rep_same]
  · rw [rep_ne h]
theorem rep_rep {M : Mat} {i : Nat} {u v : Nat → Int} : rep (rep M i u) i v = rep M i v := by
  funext k
  by_cases h : k = i
  · rw [h, rep_same, rep_same]
  · rw [rep_ne h, rep_ne h, rep_ne h]
theorem rep_comm {M : Mat} {i j : Nat} {u v : Nat → Int} (ne : i ≠ j) : rep (rep M i u) j v = rep (rep M j v) i u := by
  funext k
  by_cases h : k = i
  · subst h; rw [rep_ne ne, rep_same, rep_same]
  · by_cases h2 : k = j
    · subst h2; rw [rep_same, rep_ne h, rep_same]
    · rw [rep_ne h2, rep_ne h, rep_ne h, rep_ne h2]
/-- where column i stands in the minor without k -/
def back (k i : Nat) : Nat := if i < k then i else i - 1
theorem skip_back {k i : Nat} (h : k ≠ i) : skip k (back k i) = i := by
  unfold skip back
  by_cases q : i < k
  · rw [if_pos q, if_pos q]
  · rw [if_neg q, if_neg (by omega)]; omega
theorem minor_rep_same (M : Mat) (i : Nat) (v : Nat → Int) : minor (rep M i v) i = minor M i := by
  funext l x
  show rep M i v (skip i l) (x + 1) = M (skip i l) (x + 1)
  rw [rep_ne (by unfold skip; split <;> omega)]
theorem minor_rep_ne (M : Mat) {i k : Nat} (v : Nat → Int) (h : k ≠ i) : minor (rep M i v) k = rep (minor M k) (back k i) (fun x => v (x + 1)) := by
  funext l x
  show rep M i v (skip k l) (x + 1) = rep (minor M k) (back k i) (fun x => v (x + 1)) l x
  by_cases e : l = back k i
  · rw [e, rep_same, skip_back h, rep_same]
  · rw [rep_ne e, rep_ne (show skip k l ≠ i by
      intro q
      apply e
      revert q
      unfold skip back
      split <;> split <;> omega)]
    rfl
/-- linear in each column -/
theorem det_lin : ∀ (n : Nat) (M : Mat) (i : Nat) (a b : Int) (u v : Nat → Int), i < n → det n (rep M i fun x => a * u x + b * v x) = a * det n (rep M i u) + b * det n (rep M i v)
  | 0, _, _, _, _, _, _, h => by omega
  | n + 1, M, i, a, b, u, v, h => by
    show sN (n + 1) _ = a * sN (n + 1) _ + b * sN (n + 1) _
    rw [← sN_mul, ← sN_mul, ← sN_add]
    refine sN_congr fun k hk => ?_
    show sg k * (rep M i (fun x => a * u x + b * v x) k 0 * det n (minor (rep M i fun x => a * u x + b * v x) k)) = a * (sg k * (rep M i u k 0 * det n (minor (rep M i u) k))) + b * (sg k * (rep M i v k 0 * det n (minor (rep M i v) k)))
    by_cases e : k = i
    · subst e
      rw [minor_rep_same, minor_rep_same, minor_rep_same, rep_same, rep_same, rep_same]
      grind
    · rw [minor_rep_ne M _ e, minor_rep_ne M _ e, minor_rep_ne M _ e, rep_ne e, rep_ne e, rep_ne e]
      have hb : back k i < n := by unfold back; split <;> omega
      have q := det_lin n (minor M k) (back k i) a b (fun x => u (x + 1)) (fun x => v (x + 1)) hb
      rw [q]
      grind
/-- two equal neighbours -/
theorem det_adj : ∀ (n : Nat) (M : Mat) (i : Nat), i + 1 < n → (∀ x, M i x = M (i + 1) x) → det n M = 0
  | 0, _, _, h, _ => by omega
  | n + 1, M, i, h, e => by
    show sN (n + 1) _ = 0
    rw [sN_two (i := i) (j := i + 1) (by omega) h (by omega) fun k hk n1 n2 => ?_]
    · have em : minor M i = minor M (i + 1) := by
        funext l x
        show M (skip i l) (x + 1) = M (skip (i + 1) l) (x + 1)
        unfold skip
        by_cases h1 : l < i
        · rw [if_pos h1, if_pos (by omega)]
        · by_cases h2 : l = i
          · subst h2; rw [if_neg h1, if_pos (by omega), e]
          · rw [if_neg h1, if_neg (by omega)]
      rw [em, e 0, sg_succ]
      grind
    · have q : det n (minor M k) = 0 := by
        refine det_adj n (minor M k) (back k i) (by unfold back; split <;> omega) fun x => ?_
        show M (skip k (back k i)) (x + 1) = M (skip k (back k i + 1)) (x + 1)
        have a1 : skip k (back k i) = i := skip_back n1
        have a2 : skip k (back k i + 1) = i + 1 := by
          have q : back k i + 1 = back k (i + 1) := by
            unfold back
            by_cases q : i < k
            · rw [if_pos q, if_pos (by omega)]
            · rw [if_neg q, if_neg (by omega)]; omega
          rw [q, skip_back n2]
        rw [a1, a2, e]
      rw [q, Int.mul_zero, Int.mul_zero]
/-- two columns u, v at neighbours, exchanged -/
theorem det_swap_of {n : Nat} {i j : Nat} (hi : i < n) (hj : j < n) (ne : i ≠ j) (eq0 : ∀ M : Mat, (∀ x, M i x = M j x) → det n M = 0) (M : Mat) (u v : Nat → Int) :
    det n (rep (rep M i u) j v) = - det n (rep (rep M i v) j u) := by
  have z : ∀ w : Nat → Int, det n (rep (rep M i w) j w) = 0 := fun w => eq0 _ fun x => by rw [rep_ne ne, rep_same, rep_same]
  have hw := z (fun x => 1 * u x + 1 * v x)
  rw [det_lin n _ j 1 1 u v hj, rep_comm ne, rep_comm ne, det_lin n _ i 1 1 u v hi, det_lin n _ i 1 1 u v hi] at hw
  have zu := z u
  have zv := z v
  rw [rep_comm ne] at zu zv
  rw [rep_comm ne (u := u), rep_comm ne (u := v)]
  omega
theorem det_eq_aux : ∀ (m n : Nat) (M : Mat) (i : Nat), i + 1 + m < n → (∀ x, M i x = M (i + 1 + m) x) → det n M = 0
  | 0, n, M, i, h, e => det_adj n M i (by omega) e
  | m + 1, n, M, i, h, e => by
    have sw := det_swap_of (n := n) (i := i + 1 + m) (j := i + 1 + (m + 1)) (by omega) (by omega) (by omega)
      (fun M' e' => det_adj n M' (i + 1 + m) (by omega) (by
        intro x
        have := e' x
        rw [show i + 1 + (m + 1) = i + 1 + m + 1 by omega] at this
        exact this)) M (M (i + 1 + m)) (M (i + 1 + (m + 1)))
    rw [rep_self, rep_self] at sw
    rw [sw, det_eq_aux m n _ i (by omega) fun x => ?_]
    · rfl
    · rw [rep_ne (show i ≠ i + 1 + (m + 1) by omega), rep_ne (show i ≠ i + 1 + m by omega), rep_ne (show i + 1 + m ≠ i + 1 + (m + 1) by omega), rep_same]
      exact e x
theorem det_eq {n : Nat} {M : Mat} {i j : Nat} (hi : i < n) (hj : j < n) (ne : i ≠ j) (e : ∀ x, M i x = M j x) : det n M = 0 := by
  rcases Nat.lt_or_gt_of_ne ne with h | h
  · refine det_eq_aux (j - i - 1) n M i (by omega) ?_
    rw [show i + 1 + (j - i - 1) = j by omega]; exact e
  · refine det_eq_aux (i - j - 1) n M j (by omega) ?_
    rw [show j + 1 + (i - j - 1) = i by omega]; exact fun x => (e x).symm
theorem det_swap {n : Nat} {i j : Nat} (hi : i < n) (hj : j < n) (ne : i ≠ j) (M : Mat) (u v : Nat → Int) : det n (rep (rep M i u) j v) = - det n (rep (rep M i v) j u) :=
  det_swap_of hi hj ne (fun _ e => det_eq hi hj ne e) M u v
theorem det_rep_congr {n : Nat} {M : Mat} {i : Nat} {u v : Nat → Int} (h : ∀ x, x < n → u x = v x) : det n (rep M i u) = det n (rep M i v) :=
  det_congr n fun k x _ hx => by
    by_cases e : k = i
    · rw [e, rep_same, rep_same, h x hx]
    · rw [rep_ne e, rep_ne e]
theorem det_scale {n : Nat} {M : Mat} {i : Nat} (hi : i < n) (a : Int) (u : Nat → Int) : det n (rep M i fun x => a * u x) = a * det n (rep M i u) := by
  have q := det_lin n M i a 0 u u hi
  rw [det_rep_congr (v := fun x => a * u x) (fun x _ => by omega)] at q
  rw [q]; omega
theorem det_sum {n : Nat} {M : Mat} {i : Nat} (hi : i < n) (t : Nat → Int) (V : Mat) : ∀ m : Nat, det n (rep M i fun x => sN m fun k => t k * V k x) = sN m fun k => t k * det n (rep M i (V k))
  | 0 => by
    have q := det_scale (M := M) hi 0 (fun _ => 0)
    rw [det_rep_congr (v := fun x => (0 : Int) * (fun _ => (0 : Int)) x) (fun x _ => by show (0 : Int) = 0 * 0; rfl), q]
    show (0 : Int) * _ = 0
    rw [Int.zero_mul]
  | m + 1 => by
    have q := det_lin n M i 1 (t m) (fun x => sN m fun k => t k * V k x) (V m) hi
    rw [det_rep_congr (v := fun x => 1 * (sN m fun k => t k * V k x) + t m * V m x) (fun x _ => by show sN m (fun k => t k * V k x) + t m * V m x = _; omega), q, det_sum hi t V m]
    show _ = sN m (fun k => t k * det n (rep M i (V k))) + t m * det n (rep M i (V m))
    omega
theorem cramer {n : Nat} {Bm : Mat} {D : Int} {a t : Nat → Int} {i : Nat} (hi : i < n) (hd : det n Bm = D) (h0 : D ≠ 0) (h : ∀ x, x < n → sN n (fun k => t k * Bm k x) = D * a x) : t i = det n (rep Bm i a) := by
  have e1 := det_scale (M := Bm) hi D a
  rw [det_rep_congr (u := fun x => D * a x) (v := fun x => sN n fun k => t k * Bm k x) (fun x hx => (h x hx).symm), det_sum hi t Bm n, sN_one (i := i) hi, rep_self, hd] at e1
  · have e2 : D * t i = D * det n (rep Bm i a) := by rw [← e1, Int.mul_comm]
    exact Int.eq_of_mul_eq_mul_left h0 e2
  · intro k hk ne
    rw [det_eq (i := i) (j := k) hi hk (fun q => ne q.symm) (fun x => by rw [rep_same, rep_ne ne]), Int.mul_zero]
/-- what a pivot makes of the item i of a: an integer -/
theorem pivot_exact {n : Nat} {Bm : Mat} {D : Int} {a p ta tp : Nat → Int} {i r : Nat} (hi : i < n) (hr : r < n) (ne : i ≠ r) (hd : det n Bm = D) (h0 : D ≠ 0)
    (ha : ∀ x, x < n → sN n (fun k => ta k * Bm k x) = D * a x) (hp : ∀ x, x < n → sN n (fun k => tp k * Bm k x) = D * p x) :
    D * det n (rep (rep Bm r p) i a) = tp r * ta i - tp i * ta r := by
  rw [← det_scale hi D a, det_rep_congr (u := fun x => D * a x) (v := fun x => sN n fun k => ta k * Bm k x) (fun x hx => (ha x hx).symm), det_sum hi ta Bm n, sN_two (i := i) (j := r) hi hr ne]
  · have e1 : det n (rep (rep Bm r p) i (Bm i)) = tp r := by
      rw [rep_comm (fun q => ne q.symm), rep_self, ← cramer hr hd h0 hp]
    have e2 : det n (rep (rep Bm r p) i (Bm r)) = - tp i := by
      rw [rep_comm (fun q => ne q.symm), det_swap hi hr ne, rep_comm ne, rep_self, ← cramer hi hd h0 hp]
    rw [e1, e2]
    grind
  · intro k hk n1 n2
    rw [det_eq (i := i) (j := k) hi hk (fun q => n1 q.symm) (fun x => by rw [rep_same, rep_ne n1, rep_ne n2]), Int.mul_zero]
theorem det_unit : ∀ (n : Nat) (M : Mat), (∀ k x, k < n → x < n → M k x = if k = x then 1 else 0) → det n M = 1
  | 0, _, _ => rfl
  | n + 1, M, h => by
    show sN (n + 1) _ = 1
    rw [sN_one (i := 0) (by omega) fun k hk ne => by
      rw [h k 0 hk (by omega), if_neg ne, Int.zero_mul, Int.mul_zero]]
    rw [h 0 0 (by omega) (by omega), det_unit n (minor M 0) fun k x hk hx => by
      show M (skip 0 k) (x + 1) = _
      unfold skip
      rw [if_neg (by omega), h _ _ (by omega) (by omega)]
      by_cases e : k = x
      · rw [if_pos e, if_pos (by omega)]
      · rw [if_neg e, if_neg (by omega)]]
    rfl
/-- the size of a determinant -/
def facP : Nat → Nat → Nat
  | 0, _ => 1
  | n + 1, C => (n + 1) * (C * facP n C)
theorem sN_abs {n : Nat} {f : Nat → Int} {b : Nat} (h : ∀ k, k < n → (f k).natAbs ≤ b) : (sN n f).natAbs ≤ n * b := by
  induction n with
  | zero => exact Nat.zero_le _
  | succ n ih =>
    have a := ih fun k hk => h k (by omega)
    have c := h n (by omega)
    have d := Int.natAbs_add_le (sN n f) (f n)
    show (sN n f + f n).natAbs ≤ (n + 1) * b
    rw [Nat.succ_mul]; omega
theorem det_abs {C : Nat} : ∀ (n : Nat) (M : Mat), (∀ k x, k < n → x < n → (M k x).natAbs ≤ C) → (det n M).natAbs ≤ facP n C
  | 0, _, _ => Nat.le_refl _
  | n + 1, M, h => by
    refine sN_abs fun k hk => ?_
    have e : (sg k).natAbs = 1 := by unfold sg; split <;> rfl
    rw [Int.natAbs_mul, e, Nat.one_mul, Int.natAbs_mul]
    refine Nat.mul_le_mul (h k 0 hk (by omega)) (det_abs n (minor M k) fun l x hl hx => h _ _ ?_ (by omega))
    unfold skip; split <;> omega
end K28
end
section
set_option Elab.async false
set_option maxRecDepth 100000
namespace K28
/-! the table: T row column, the last column R + n what is wanted, c the cost, B the basis, D the divisor -/
structure Tb where
  T : Nat → Nat → Int
  c : Nat → Int
  B : Nat → Nat
  D : Int
theorem Tb.ext' {S S' : Tb} (h1 : S.T = S'.T) (h2 : S.c = S'.c) (h3 : S.B = S'.B) (h4 : S.D = S'.D) : S = S' := by
  cases S; cases S'
  cases h1; cases h2; cases h3; cases h4
  rfl
section
variable (n R : Nat)
def enter (S : Tb) : Option Nat := (List.range R).find? fun p => decide (0 < S.c p)
def better (S : Tb) (p : Nat) (best : Option Nat) (k : Nat) : Option Nat :=
  if 0 < S.T k p then
    match best with
    | none => some k
    | some b => if S.T k (R + n) * S.T b p < S.T b (R + n) * S.T k p ∨ (S.T k (R + n) * S.T b p = S.T b (R + n) * S.T k p ∧ S.B k < S.B b) then some k else some b
  else best
def leave (S : Tb) (p : Nat) : Option Nat := (List.range n).foldl (better n R S p) none
def pivot (S : Tb) (r p : Nat) : Tb where
  T := fun k j => if k < n ∧ j ≤ R + n then (if k = r then S.T r j else (S.T r p * S.T k j - S.T k p * S.T r j) / S.D) else 0
  c := fun j => if j ≤ R + n then (S.T r p * S.c j - S.c p * S.T r j) / S.D else 0
  B := fun k => if k = r then p else S.B k
  D := S.T r p
def stepT (S : Tb) : Option Tb := (enter R S).bind fun p => (leave n R S p).map fun r => pivot n R S r p
end
/-- columns A: R real ones, n units, the wanted one -/
structure Inv1 (n R : Nat) (A : Mat) (S : Tb) : Prop where
  Dpos : 0 < S.D
  sol : ∀ j, j ≤ R + n → ∀ x, x < n → sN n (fun k => S.T k j * A (S.B k) x) = S.D * A j x
  det_ : det n (fun k => A (S.B k)) = S.D
  Bran : ∀ k, k < n → S.B k < R + n
  rhs : ∀ k, k < n → 0 ≤ S.T k (R + n)
  cost : ∀ j, j ≤ R + n → S.c j = sN n (fun k => if R ≤ S.B k then S.T k j else 0)
  T0 : ∀ k j, ¬ (k < n ∧ j ≤ R + n) → S.T k j = 0
  c0 : ∀ j, ¬ j ≤ R + n → S.c j = 0
  B0 : ∀ k, ¬ k < n → S.B k = 0
section
variable {n R : Nat} {A : Mat} {S : Tb}
theorem Inv1.tdet (I : Inv1 n R A S) {i j : Nat} (hi : i < n) (hj : j ≤ R + n) : S.T i j = det n (rep (fun k => A (S.B k)) i (A j)) :=
  cramer (t := fun k => S.T k j) hi I.det_ (by have := I.Dpos; omega) (I.sol j hj)
theorem Inv1.tunit (I : Inv1 n R A S) {i l : Nat} (hi : i < n) (hl : l < n) : S.T i (S.B l) = if i = l then S.D else 0 := by
  rw [I.tdet hi (by have := I.Bran l hl; omega)]
  by_cases e : i = l
  · subst e
    rw [if_pos rfl, show A (S.B i) = (fun k => A (S.B k)) i from rfl, rep_self, I.det_]
  · rw [if_neg e]
    exact det_eq hi hl e fun x => by rw [rep_same, rep_ne (fun q => e q.symm)]
theorem Inv1.binj (I : Inv1 n R A S) {i l : Nat} (hi : i < n) (hl : l < n) (e : S.B i = S.B l) : i = l := by
  have a := I.tunit hi hl
  rw [← e, I.tunit hi hi, if_pos rfl] at a
  by_cases q : i = l
  · exact q
  · rw [if_neg q] at a
    have := I.Dpos
    omega
/-- each row is made of the columns' coordinates -/
theorem Inv1.row (I : Inv1 n R A S) (hU : ∀ k x, k < n → x < n → A (R + k) x = if k = x then 1 else 0) {i j : Nat} (hi : i < n) (hj : j ≤ R + n) :
    S.T i j = sN n (fun x => A j x * S.T i (R + x)) := by
  rw [I.tdet hi hj, det_rep_congr (v := fun x => sN n fun k => A j k * A (R + k) x) (fun x hx => ?_), det_sum hi (A j) (fun k => A (R + k)) n]
  · exact sN_congr fun k hk => by rw [I.tdet hi (by omega)]
  · rw [sN_one (i := x) hx fun k hk ne => by rw [hU k x hk hx, if_neg ne, Int.mul_zero], hU x x hx hx, if_pos rfl, Int.mul_one]
theorem Inv1.crow (I : Inv1 n R A S) (hU : ∀ k x, k < n → x < n → A (R + k) x = if k = x then 1 else 0) {j : Nat} (hj : j ≤ R + n) :
    S.c j = sN n (fun x => A j x * S.c (R + x)) := by
  rw [I.cost j hj]
  have e : ∀ x, x < n → A j x * S.c (R + x) = sN n (fun k => A j x * if R ≤ S.B k then S.T k (R + x) else 0) := fun x hx => by rw [sN_mul, I.cost (R + x) (by omega)]
  rw [sN_congr e, sN_swap]
  refine sN_congr fun k hk => ?_
  by_cases q : R ≤ S.B k
  · rw [if_pos q, I.row hU hk hj]
    exact sN_congr fun x _ => by rw [if_pos q]
  · rw [if_neg q]
    exact (sN_zero fun x _ => by rw [if_neg q, Int.mul_zero]).symm
/-- reckoned exactly -/
theorem Inv1.exactT (I : Inv1 n R A S) {r p k j : Nat} (hr : r < n) (hp : p ≤ R + n) (hk : k < n) (ne : k ≠ r) (hj : j ≤ R + n) :
    S.D * ((S.T r p * S.T k j - S.T k p * S.T r j) / S.D) = S.T r p * S.T k j - S.T k p * S.T r j := by
  have e := pivot_exact (ta := fun k => S.T k j) (tp := fun k => S.T k p) hk hr ne I.det_ (by have := I.Dpos; omega) (I.sol j hj) (I.sol p hp)
  exact Int.mul_ediv_cancel' ⟨_, e.symm⟩
theorem pivT {r p k j : Nat} (hk : k < n) (hj : j ≤ R + n) (ne : k ≠ r) : (pivot n R S r p).T k j = (S.T r p * S.T k j - S.T k p * S.T r j) / S.D := by
  show (if k < n ∧ j ≤ R + n then _ else _) = _
  rw [if_pos ⟨hk, hj⟩, if_neg ne]
theorem pivTr {r p j : Nat} (hr : r < n) (hj : j ≤ R + n) : (pivot n R S r p).T r j = S.T r j := by
  show (if r < n ∧ j ≤ R + n then _ else _) = _
  rw [if_pos ⟨hr, hj⟩, if_pos rfl]
theorem pivBr {r p : Nat} : (pivot n R S r p).B r = p := if_pos rfl
theorem pivB {r p k : Nat} (ne : k ≠ r) : (pivot n R S r p).B k = S.B k := if_neg ne
/-- a sum over the rows, the row r apart -/
theorem sN_apart {r : Nat} (hr : r < n) (f : Nat → Int) : sN n f = sN n (fun k => if k = r then 0 else f k) + f r := by
  have e1 : sN n f = sN n (fun k => (if k = r then 0 else f k) + (if k = r then f k else 0)) := sN_congr fun k _ => by
    by_cases e : k = r <;> simp [e]
  rw [e1, sN_add, sN_one (f := fun k => if k = r then f k else 0) (i := r) hr (fun k _ ne => if_neg ne), if_pos rfl]
theorem Inv1.exactC (I : Inv1 n R A S) {r p j : Nat} (hr : r < n) (hp : p ≤ R + n) (hj : j ≤ R + n) :
    S.D * ((S.T r p * S.c j - S.c p * S.T r j) / S.D) = S.T r p * S.c j - S.c p * S.T r j ∧
    (S.T r p * S.c j - S.c p * S.T r j) / S.D = sN n (fun k => if k = r then 0 else if R ≤ S.B k then (S.T r p * S.T k j - S.T k p * S.T r j) / S.D else 0) := by
  have e : S.T r p * S.c j - S.c p * S.T r j = S.D * sN n (fun k => if k = r then 0 else if R ≤ S.B k then (S.T r p * S.T k j - S.T k p * S.T r j) / S.D else 0) := by
    rw [← sN_mul]
    have e2 : sN n (fun k => S.D * (if k = r then 0 else if R ≤ S.B k then (S.T r p * S.T k j - S.T k p * S.T r j) / S.D else 0)) =
        sN n (fun k => (S.T r p) * (if R ≤ S.B k then S.T k j else 0) + (- S.T r j) * (if R ≤ S.B k then S.T k p else 0)) := by
      refine sN_congr fun k hk => ?_
      by_cases q : k = r
      · subst q
        rw [if_pos rfl, Int.mul_zero]
        by_cases q2 : R ≤ S.B k
        · rw [if_pos q2, if_pos q2]; grind
        · rw [if_neg q2, if_neg q2]; grind
      · rw [if_neg q]
        by_cases q2 : R ≤ S.B k
        · rw [if_pos q2, if_pos q2, if_pos q2, I.exactT hr hp hk q hj]; grind
        · rw [if_neg q2, if_neg q2, if_neg q2]; grind
    rw [e2, sN_add, sN_mul, sN_mul, ← I.cost j hj, ← I.cost p hp]
    grind
  have h0 : S.D ≠ 0 := by have := I.Dpos; omega
  rw [e, Int.mul_ediv_cancel_left _ h0]
  exact ⟨rfl, rfl⟩
theorem Inv1.pivot (I : Inv1 n R A S) {r p : Nat} (hr : r < n) (hp : p < R) (hpos : 0 < S.T r p)
    (ratio : ∀ k, k < n → 0 < S.T k p → S.T r (R + n) * S.T k p ≤ S.T k (R + n) * S.T r p) : Inv1 n R A (K28.pivot n R S r p) where
  Dpos := hpos
  det_ := by
    have e : (fun k => A ((K28.pivot n R S r p).B k)) = rep (fun k => A (S.B k)) r (A p) := by
      funext k
      by_cases q : k = r
      · rw [q, rep_same, pivBr]
      · rw [rep_ne q, pivB q]
    rw [e, ← I.tdet hr (by omega)]
    rfl
  sol := fun j hj x hx => by
    have h0 : S.D ≠ 0 := by have := I.Dpos; omega
    refine Int.eq_of_mul_eq_mul_left h0 ?_
    rw [← sN_mul]
    have e : ∀ k, k < n → S.D * ((K28.pivot n R S r p).T k j * A ((K28.pivot n R S r p).B k) x) =
        (S.T r p * (S.T k j * A (S.B k) x) + (- S.T r j) * (S.T k p * A (S.B k) x)) + (if k = r then S.D * S.T r j * A p x else 0) := fun k hk => by
      by_cases q : k = r
      · subst q
        rw [if_pos rfl, pivTr hr hj, pivBr]; grind
      · rw [if_neg q, pivT hk hj q, pivB q, ← Int.mul_assoc, I.exactT hr (by omega) hk q hj]; grind
    rw [sN_congr e, sN_add, sN_add, sN_mul, sN_mul, I.sol j hj x hx, I.sol p (by omega) x hx, sN_one (f := fun k => if k = r then S.D * S.T r j * A p x else 0) (i := r) hr (fun k _ ne => if_neg ne), if_pos rfl]
    show _ = S.D * (S.T r p * A j x)
    grind
  Bran := fun k hk => by
    by_cases q : k = r
    · rw [q, pivBr]; omega
    · rw [pivB q]; exact I.Bran k hk
  rhs := fun k hk => by
    by_cases q : k = r
    · rw [q, pivTr hr (Nat.le_refl _)]; exact I.rhs r hr
    · rw [pivT hk (Nat.le_refl _) q]
      refine Int.ediv_nonneg ?_ (Int.le_of_lt I.Dpos)
      by_cases q2 : 0 < S.T k p
      · have := ratio k hk q2
        grind
      · have a : 0 ≤ S.T r p * S.T k (R + n) := Int.mul_nonneg (Int.le_of_lt hpos) (I.rhs k hk)
        have b : S.T k p * S.T r (R + n) ≤ 0 := Int.mul_nonpos_of_nonpos_of_nonneg (by omega) (I.rhs r hr)
        omega
  cost := fun j hj => by
    show (if j ≤ R + n then _ else _) = _
    rw [if_pos hj, (I.exactC hr (by omega) hj).2]
    refine sN_congr fun k hk => ?_
    by_cases q : k = r
    · rw [if_pos q, q, pivBr, if_neg (by omega)]
    · rw [if_neg q, pivB q, pivT hk hj q]
  T0 := fun k j h => if_neg h
  c0 := fun j h => if_neg h
  B0 := fun k h => by
    rw [pivB (fun q => h (by omega))]; exact I.B0 k h
end
/-! the row that leaves -/
section
variable {n R : Nat} {S : Tb} {p : Nat}
/-- b is the row that leaves among the first m -/
structure Best (n R : Nat) (S : Tb) (p m b : Nat) : Prop where
  lt : b < m
  pos : 0 < S.T b p
  least : ∀ k, k < m → 0 < S.T k p → S.T b (R + n) * S.T k p ≤ S.T k (R + n) * S.T b p ∧ (S.T b (R + n) * S.T k p = S.T k (R + n) * S.T b p → S.B b ≤ S.B k)
theorem leave_go : ∀ m : Nat, (match (List.range m).foldl (better n R S p) none with
    | none => ∀ k, k < m → ¬ 0 < S.T k p
    | some b => Best n R S p m b)
  | 0 => fun k hk => by omega
  | m + 1 => by
    have ih := leave_go m
    rw [List.range_succ, List.foldl_append]
    show (match better n R S p ((List.range m).foldl (better n R S p) none) m with
      | none => _
      | some b => _)
    cases e : (List.range m).foldl (better n R S p) none with
    | none =>
      rw [e] at ih
      unfold better
      by_cases q : 0 < S.T m p
      · rw [if_pos q]
        exact ⟨by omega, q, fun k hk pk => by
          by_cases x : k = m
          · subst x; exact ⟨Int.le_refl _, fun _ => Nat.le_refl _⟩
          · exact absurd pk (ih k (by omega))⟩
      · rw [if_neg q]
        intro k hk
        by_cases x : k = m
        · subst x; exact q
        · exact ih k (by omega)
    | some b =>
      rw [e] at ih
      obtain ⟨hb, pb, lb⟩ := ih
      unfold better
      by_cases q : 0 < S.T m p
      · rw [if_pos q]
        show (match (if _ then some m else some b) with
          | none => _
          | some b => _)
        by_cases w : S.T m (R + n) * S.T b p < S.T b (R + n) * S.T m p ∨ (S.T m (R + n) * S.T b p = S.T b (R + n) * S.T m p ∧ S.B m < S.B b)
        · rw [if_pos w]
          have w1 : S.T m (R + n) * S.T b p ≤ S.T b (R + n) * S.T m p := by omega
          refine ⟨by omega, q, fun k hk pk => ?_⟩
          by_cases x : k = m
          · subst x; exact ⟨Int.le_refl _, fun _ => Nat.le_refl _⟩
          · obtain ⟨l1, l2⟩ := lb k (by omega) pk
            -- both times a positive number
            have a1 : (S.T m (R + n) * S.T b p) * S.T k p ≤ (S.T b (R + n) * S.T m p) * S.T k p := Int.mul_le_mul_of_nonneg_right w1 (Int.le_of_lt pk)
            have a2 : (S.T b (R + n) * S.T k p) * S.T m p ≤ (S.T k (R + n) * S.T b p) * S.T m p := Int.mul_le_mul_of_nonneg_right l1 (Int.le_of_lt q)
            have a3 : (S.T m (R + n) * S.T k p) * S.T b p ≤ (S.T k (R + n) * S.T m p) * S.T b p := by grind
            refine ⟨Int.le_of_mul_le_mul_right a3 pb, fun e2 => ?_⟩
            have a4 : (S.T m (R + n) * S.T k p) * S.T b p = (S.T k (R + n) * S.T m p) * S.T b p := by rw [e2]
            have b0 : (S.T m (R + n) * S.T b p) * S.T k p = (S.T m (R + n) * S.T k p) * S.T b p := by grind
            have b3 : (S.T k (R + n) * S.T b p) * S.T m p = (S.T k (R + n) * S.T m p) * S.T b p := by grind
            have b4 : (S.T b (R + n) * S.T m p) * S.T k p = (S.T b (R + n) * S.T k p) * S.T m p := by grind
            have b1 : (S.T m (R + n) * S.T b p) * S.T k p = (S.T b (R + n) * S.T m p) * S.T k p := by omega
            have b2 : (S.T b (R + n) * S.T k p) * S.T m p = (S.T k (R + n) * S.T b p) * S.T m p := by omega
            have c1 := Int.eq_of_mul_eq_mul_right (Int.ne_of_gt pk) b1
            have c2 := Int.eq_of_mul_eq_mul_right (Int.ne_of_gt q) b2
            have d1 := l2 c2
            rcases w with w | ⟨_, w⟩
            · omega
            · omega
        · rw [if_neg w]
          refine ⟨by omega, pb, fun k hk pk => ?_⟩
          by_cases x : k = m
          · subst x
            exact ⟨by omega, fun e2 => by
              rcases Nat.lt_or_ge (S.B k) (S.B b) with y | y
              · exact absurd (Or.inr ⟨e2.symm, y⟩) w
              · exact y⟩
          · exact lb k (by omega) pk
      · rw [if_neg q]
        exact ⟨by omega, pb, fun k hk pk => by
          by_cases x : k = m
          · subst x; exact absurd pk q
          · exact lb k (by omega) pk⟩
theorem leave_some {b : Nat} (h : leave n R S p = some b) : Best n R S p n b := by
  have q := leave_go (n := n) (R := R) (S := S) (p := p) n
  unfold leave at h
  rw [h] at q
  exact q
theorem leave_none (h : leave n R S p = none) : ∀ k, k < n → ¬ 0 < S.T k p := by
  have q := leave_go (n := n) (R := R) (S := S) (p := p) n
  unfold leave at h
  rw [h] at q
  exact q
theorem enter_some {R : Nat} {S : Tb} {p : Nat} (h : enter R S = some p) : p < R ∧ 0 < S.c p ∧ ∀ j, j < p → ¬ 0 < S.c j := by
  unfold enter at h
  obtain ⟨h1, i, hi, h2, h3⟩ := List.find?_eq_some_iff_getElem.mp h
  rw [List.length_range] at hi
  rw [List.getElem_range] at h2
  subst h2
  refine ⟨hi, of_decide_eq_true h1, fun j hj => ?_⟩
  have := h3 j hj
  rw [List.getElem_range] at this
  simpa using this
theorem enter_none {R : Nat} {S : Tb} (h : enter R S = none) : ∀ j, j < R → ¬ 0 < S.c j := fun j hj => by
  have := List.find?_eq_none.mp h j (List.mem_range.mpr hj)
  simpa using this
end
section
variable {n R : Nat} {A : Mat} {S S' : Tb}
/-- a step: what enters, what leaves -/
structure StepT (n R : Nat) (S S' : Tb) (p r : Nat) : Prop where
  ent : enter R S = some p
  lea : leave n R S p = some r
  eq : S' = pivot n R S r p
theorem stepT_of (h : stepT n R S = some S') : ∃ p r, StepT n R S S' p r := by
  unfold stepT at h
  obtain ⟨p, hp, h⟩ := Option.bind_eq_some_iff.mp h
  obtain ⟨r, hr, h⟩ := Option.map_eq_some_iff.mp h
  exact ⟨p, r, hp, hr, h.symm⟩
theorem StepT.inv {p r : Nat} (s : StepT n R S S' p r) (I : Inv1 n R A S) : Inv1 n R A S' := by
  obtain ⟨a, b, rfl⟩ := s
  obtain ⟨hb, pb, lb⟩ := leave_some b
  exact I.pivot hb (enter_some a).1 pb fun k hk pk => (lb k hk pk).1
theorem Inv1.go (I : Inv1 n R A S) {p : Nat} (h : enter R S = some p) : ∃ r, leave n R S p = some r := by
  cases e : leave n R S p with
  | some r => exact ⟨r, rfl⟩
  | none =>
    have a := (enter_some h).2.1
    have hp := (enter_some h).1
    rw [I.cost p (by omega)] at a
    obtain ⟨k, hk, pk⟩ := sN_pos a
    by_cases q : R ≤ S.B k
    · rw [if_pos q] at pk
      exact absurd pk (leave_none e k hk)
    · rw [if_neg q] at pk
      omega
theorem Inv1.step (I : Inv1 n R A S) : enter R S = none ∨ ∃ S', stepT n R S = some S' ∧ Inv1 n R A S' := by
  cases e : enter R S with
  | none => exact Or.inl rfl
  | some p =>
    obtain ⟨r, hr⟩ := I.go e
    have s : stepT n R S = some (K28.pivot n R S r p) := by
      unfold stepT
      rw [e]
      show (leave n R S p).map _ = _
      rw [hr]
      rfl
    exact Or.inr ⟨_, s, (StepT.inv ⟨e, hr, rfl⟩ I)⟩
end
end K28
end
section
set_option Elab.async false
set_option maxRecDepth 100000
namespace K28
/-! no cycle: the rule of the least number -/
def basic (n : Nat) (S : Tb) (j : Nat) : Prop := ∃ k, k < n ∧ S.B k = j
section
variable {n R : Nat} {A : Mat} {S S' : Tb} {p r : Nat}
theorem Inv1.cbas (I : Inv1 n R A S) {k : Nat} (hk : k < n) : S.c (S.B k) = if R ≤ S.B k then S.D else 0 := by
  rw [I.cost _ (by have := I.Bran k hk; omega), sN_one (i := k) hk fun l hl ne => ?_]
  · rw [I.tunit hk hk, if_pos rfl]
  · rw [I.tunit hl hk, if_neg ne]
    by_cases q : R ≤ S.B l
    · rw [if_pos q]
    · rw [if_neg q]
theorem StepT.nb (s : StepT n R S S' p r) (I : Inv1 n R A S) : ¬ basic n S p := fun ⟨k, hk, e⟩ => by
  have a := I.cbas hk
  obtain ⟨h1, h2, _⟩ := enter_some s.ent
  rw [e, if_neg (by omega)] at a
  omega
theorem StepT.best (s : StepT n R S S' p r) : Best n R S p n r := leave_some s.lea
theorem StepT.bas (s : StepT n R S S' p r) (I : Inv1 n R A S) {j : Nat} : basic n S' j ↔ j = p ∨ (basic n S j ∧ j ≠ S.B r) := by
  have hr := s.best.lt
  obtain ⟨_, _, rfl⟩ := s
  constructor
  · rintro ⟨k, hk, e⟩
    by_cases q : k = r
    · left; rw [← e, q, pivBr]
    · right
      rw [pivB q] at e
      exact ⟨⟨k, hk, e⟩, fun z => q (I.binj hk hr (by rw [e, z]))⟩
  · rintro (e | ⟨⟨k, hk, e⟩, ne⟩)
    · exact ⟨r, hr, by rw [pivBr, e]⟩
    · refine ⟨k, hk, ?_⟩
      rw [pivB (fun q => ne (by rw [← e, q]))]; exact e
theorem StepT.pR (s : StepT n R S S' p r) : p < R := (enter_some s.ent).1
theorem StepT.cpos (s : StepT n R S S' p r) : 0 < S.c p := (enter_some s.ent).2.1
theorem StepT.dEq (s : StepT n R S S' p r) : S'.D = S.T r p := by rw [s.eq]; rfl
theorem StepT.obj (s : StepT n R S S' p r) (I : Inv1 n R A S) : S.D * S'.c (R + n) = S'.D * S.c (R + n) - S.c p * S.T r (R + n) := by
  have hr := s.best.lt
  have hp := s.pR
  rw [s.dEq, s.eq]
  show S.D * (if R + n ≤ R + n then _ else _) = _
  rw [if_pos (Nat.le_refl _)]
  exact (I.exactC hr (by omega) (Nat.le_refl _)).1
theorem StepT.less (s : StepT n R S S' p r) (I : Inv1 n R A S) : S'.c (R + n) * S.D ≤ S.c (R + n) * S'.D := by
  have a := s.obj I
  have b : 0 ≤ S.c p * S.T r (R + n) := Int.mul_nonneg (Int.le_of_lt s.cpos) (I.rhs r s.best.lt)
  have c1 : S.D * S'.c (R + n) = S'.c (R + n) * S.D := Int.mul_comm _ _
  have c2 : S'.D * S.c (R + n) = S.c (R + n) * S'.D := Int.mul_comm _ _
  omega
/-- the algebra of the proof of the rule -/
theorem two_bases (I : Inv1 n R A S) (I' : Inv1 n R A S') (hU : ∀ k x, k < n → x < n → A (R + k) x = if k = x then 1 else 0) {s : Nat} (hs : s ≤ R + n) :
    sN n (fun k => S'.T k s * (S.c (S'.B k) - if R ≤ S'.B k then S.D else 0)) = S'.D * S.c s - S.D * S'.c s := by
  have e1 : S'.D * S.c s = sN n (fun k => S'.T k s * S.c (S'.B k)) := by
    rw [I.crow hU hs, ← sN_mul]
    have a : ∀ x, x < n → S'.D * (A s x * S.c (R + x)) = sN n (fun k => S'.T k s * (A (S'.B k) x * S.c (R + x))) := fun x hx => by
      rw [← Int.mul_assoc, ← I'.sol s hs x hx, Int.mul_comm, ← sN_mul]
      exact sN_congr fun k _ => by grind
    rw [sN_congr a, sN_swap]
    refine sN_congr fun k hk => ?_
    rw [sN_mul, ← I.crow hU (by have := I'.Bran k hk; omega)]
  have e2 : S.D * S'.c s = sN n (fun k => S'.T k s * if R ≤ S'.B k then S.D else 0) := by
    rw [I'.cost s hs, ← sN_mul]
    refine sN_congr fun k _ => ?_
    by_cases q : R ≤ S'.B k
    · rw [if_pos q, if_pos q, Int.mul_comm]
    · rw [if_neg q, if_neg q, Int.mul_zero, Int.mul_zero]
  have e3 : sN n (fun k => S'.T k s * (S.c (S'.B k) - if R ≤ S'.B k then S.D else 0)) = sN n (fun k => S'.T k s * S.c (S'.B k) + (-1) * (S'.T k s * if R ≤ S'.B k then S.D else 0)) :=
    sN_congr fun k _ => by grind
  rw [e3, sN_add, sN_mul, e1, e2]
  omega
end
/-- a chain that comes back to where it was -/
structure Ring (n R : Nat) (A : Mat) (f : Nat → Tb) (p r : Nat → Nat) (P : Nat) : Prop where
  inv : ∀ m, Inv1 n R A (f m)
  st : ∀ m, StepT n R (f m) (f (m + 1)) (p m) (r m)
  per : ∀ m, f (m + P) = f m
  pos : 0 < P
section
variable {n R : Nat} {A : Mat} {f : Nat → Tb} {p r : Nat → Nat} {P : Nat}
theorem Ring.pers (G : Ring n R A f p r P) (m : Nat) : ∀ q : Nat, f (m + P * q) = f m
  | 0 => rfl
  | q + 1 => by
    rw [Nat.mul_succ, ← Nat.add_assoc, G.per]
    exact G.pers m q
theorem Ring.le (G : Ring n R A f p r P) (i : Nat) : ∀ d : Nat, (f (i + d)).c (R + n) * (f i).D ≤ (f i).c (R + n) * (f (i + d)).D
  | 0 => Int.le_refl _
  | d + 1 => by
    have a := G.le i d
    have b := (G.st (i + d)).less (G.inv _)
    have h0 := (G.inv (i + d)).Dpos
    have h1 := (G.inv i).Dpos
    have h2 := (G.inv (i + d + 1)).Dpos
    have a1 := Int.mul_le_mul_of_nonneg_right a (Int.le_of_lt h2)
    have b1 := Int.mul_le_mul_of_nonneg_right b (Int.le_of_lt h1)
    rw [← Nat.add_assoc]
    have c1 : ((f (i + d + 1)).c (R + n) * (f i).D) * (f (i + d)).D ≤ ((f i).c (R + n) * (f (i + d + 1)).D) * (f (i + d)).D := by grind
    exact Int.le_of_mul_le_mul_right c1 h0
/-- every step leaves all as it was -/
theorem Ring.deg (G : Ring n R A f p r P) (m : Nat) : (f m).T (r m) (R + n) = 0 := by
  have a := G.le (m + 1) (P - 1)
  have hP := G.pos
  rw [show m + 1 + (P - 1) = m + P by omega, G.per] at a
  have b := (G.st m).obj (G.inv m)
  have c := (G.st m).cpos
  have d := (G.inv m).rhs (r m) (G.st m).best.lt
  have e1 : (f m).D * (f (m + 1)).c (R + n) = (f (m + 1)).c (R + n) * (f m).D := Int.mul_comm _ _
  have e2 : (f (m + 1)).D * (f m).c (R + n) = (f m).c (R + n) * (f (m + 1)).D := Int.mul_comm _ _
  have g : (f m).c (p m) * (f m).T (r m) (R + n) ≤ 0 := by omega
  rcases Int.lt_or_eq_of_le d with z | z
  · have := Int.mul_pos c z
    omega
  · exact z.symm
/-- a variable that was outside stays 0 -/
theorem Ring.zero1 (G : Ring n R A f p r P) {m j : Nat} (h : ∀ k, k < n → (f m).B k = j → (f m).T k (R + n) = 0) : ∀ k, k < n → (f (m + 1)).B k = j → (f (m + 1)).T k (R + n) = 0 := by
  intro k hk e
  have hr := (G.st m).best.lt
  have hdeg := G.deg m
  obtain ⟨_, _, eq⟩ := G.st m
  rw [eq] at e ⊢
  by_cases q : k = r m
  · rw [q, pivTr hr (Nat.le_refl _)]; exact hdeg
  · rw [pivB q] at e
    rw [pivT hk (Nat.le_refl _) q, h k hk e, hdeg, Int.mul_zero, Int.mul_zero, Int.sub_self, Int.zero_ediv]
theorem Ring.zeros (G : Ring n R A f p r P) {m j : Nat} (h : ¬ basic n (f m) j) (m' : Nat) : ∀ k, k < n → (f m').B k = j → (f m').T k (R + n) = 0 := by
  have a : ∀ d, ∀ k, k < n → (f (m + d)).B k = j → (f (m + d)).T k (R + n) = 0 := by
    intro d
    induction d with
    | zero => intro k hk e; exact absurd ⟨k, hk, e⟩ h
    | succ d ih => exact G.zero1 ih
  have hP := G.pos
  have b := a (m' + P * m - m)
  have ge : m ≤ P * m := Nat.le_mul_of_pos_left m hP
  rw [show m + (m' + P * m - m) = m' + P * m by omega, G.pers] at b
  exact b
theorem Ring.enters (G : Ring n R A f p r P) {j : Nat} : ∀ (d a : Nat), ¬ basic n (f a) j → basic n (f (a + d)) j → ∃ k, p k = j
  | 0, a, h, h' => absurd h' h
  | d + 1, a, h, h' => by
    rcases ((G.st (a + d)).bas (G.inv _)).mp h' with e | ⟨e, _⟩
    · exact ⟨_, e.symm⟩
    · exact G.enters d a h e
theorem Ring.leaves (G : Ring n R A f p r P) {j : Nat} : ∀ (d a : Nat), basic n (f a) j → ¬ basic n (f (a + d)) j → ∃ k, (f k).B (r k) = j
  | 0, a, h, h' => absurd h h'
  | d + 1, a, h, h' => by
    by_cases q : basic n (f (a + d)) j
    · refine ⟨a + d, ?_⟩
      by_cases z : (f (a + d)).B (r (a + d)) = j
      · exact z
      · exact absurd (((G.st (a + d)).bas (G.inv _)).mpr (Or.inr ⟨q, fun e => z e.symm⟩)) h'
    · exact G.leaves d a h q
def fickle (n : Nat) (f : Nat → Tb) (j : Nat) : Prop := (∃ m, ¬ basic n (f m) j) ∧ ∃ m, basic n (f m) j
theorem Ring.ent (G : Ring n R A f p r P) {j : Nat} (h : fickle n f j) : ∃ k, p k = j := by
  obtain ⟨⟨a, ha⟩, ⟨b, hb⟩⟩ := h
  have ge : a ≤ P * a := Nat.le_mul_of_pos_left a G.pos
  refine G.enters (b + P * a - a) a ha ?_
  rw [show a + (b + P * a - a) = b + P * a by omega, G.pers]; exact hb
theorem Ring.lea (G : Ring n R A f p r P) {j : Nat} (h : fickle n f j) : ∃ k, (f k).B (r k) = j := by
  obtain ⟨⟨b, hb⟩, ⟨a, ha⟩⟩ := h
  have ge : a ≤ P * a := Nat.le_mul_of_pos_left a G.pos
  refine G.leaves (b + P * a - a) a ha ?_
  rw [show a + (b + P * a - a) = b + P * a by omega, G.pers]; exact hb
theorem greatest {F : Nat → Prop} : ∀ (K : Nat), (∀ j, F j → j < K) → (∃ j, F j) → ∃ t, F t ∧ ∀ j, F j → j ≤ t
  | 0, h, ⟨j, hj⟩ => absurd (h j hj) (by omega)
  | K + 1, h, e => by
    by_cases q : F K
    · exact ⟨K, q, fun j hj => by have := h j hj; omega⟩
    · exact greatest K (fun j hj => by
        have a := h j hj
        by_cases z : j = K
        · subst z; exact absurd hj q
        · omega) e
theorem Ring.no (G : Ring n R A f p r P) (hU : ∀ k x, k < n → x < n → A (R + k) x = if k = x then 1 else 0) : False := by
  have fp : ∀ m, fickle n f (p m) := fun m => ⟨⟨m, (G.st m).nb (G.inv m)⟩, ⟨m + 1, ((G.st m).bas (G.inv m)).mpr (Or.inl rfl)⟩⟩
  have fR : ∀ j, fickle n f j → j < R := fun j h => by
    obtain ⟨k, e⟩ := G.ent h
    rw [← e]; exact (G.st k).pR
  obtain ⟨t, ht, top⟩ := greatest R fR ⟨_, fp 0⟩
  obtain ⟨m1, e1⟩ := G.ent ht
  obtain ⟨m2, e2⟩ := G.lea ht
  have I := G.inv m1
  have I' := G.inv m2
  have s2 := G.st m2
  have hr := s2.best.lt
  have hs := fp m2
  -- s, what enters where t leaves
  have sne : p m2 ≠ t := fun q => s2.nb I' ⟨r m2, hr, by rw [e2, q]⟩
  have slt : p m2 < t := by have := top _ hs; omega
  have ent1 := (enter_some (G.st m1).ent).2
  rw [e1] at ent1
  have alg := two_bases I I' hU (s := p m2) (by have := s2.pR; omega)
  have nn : 0 ≤ sN n (fun k => (f m2).T k (p m2) * ((f m1).c ((f m2).B k) - if R ≤ (f m2).B k then (f m1).D else 0)) := by
    refine sN_nonneg fun k hk => ?_
    by_cases q : basic n (f m1) ((f m2).B k)
    · obtain ⟨l, hl, e⟩ := q
      rw [← e, I.cbas hl]
      have : (f m2).T k (p m2) * ((if R ≤ (f m1).B l then (f m1).D else 0) - if R ≤ (f m1).B l then (f m1).D else 0) = 0 := by rw [Int.sub_self, Int.mul_zero]
      omega
    · have fj : fickle n f ((f m2).B k) := ⟨⟨m1, q⟩, ⟨m2, k, hk, rfl⟩⟩
      have jR := fR _ fj
      rw [if_neg (by omega), Int.sub_zero]
      by_cases w : (f m2).B k = t
      · have ek : k = r m2 := I'.binj hk hr (by rw [w, e2])
        rw [w, ek]
        exact Int.le_of_lt (Int.mul_pos s2.best.pos ent1.1)
      · have jt : (f m2).B k < t := by have := top _ fj; omega
        have cj := ent1.2 _ jt
        by_cases pk : 0 < (f m2).T k (p m2)
        · exfalso
          have z1 := G.zeros q m2 k hk rfl
          have z2 := G.deg m2
          have := (s2.best.least k hk pk).2 (by rw [z1, z2, Int.zero_mul, Int.zero_mul])
          rw [e2] at this
          omega
        · exact Int.mul_nonneg_of_nonpos_of_nonpos (by omega) (by omega)
  have c2 := s2.cpos
  have g1 := Int.mul_pos I.Dpos c2
  have g2 : ¬ 0 < (f m1).c (p m2) := ent1.2 _ slt
  have g3 : (f m2).D * (f m1).c (p m2) ≤ 0 := Int.mul_nonpos_of_nonneg_of_nonpos (Int.le_of_lt I'.Dpos) (by omega)
  omega
end
/-! the chain ends -/
theorem pigeon : ∀ (K : Nat) (g : Nat → Nat), (∀ m, m ≤ K → g m < K) → ∃ i j, i < j ∧ j ≤ K ∧ g i = g j
  | 0, g, h => absurd (h 0 (Nat.le_refl _)) (by omega)
  | K + 1, g, h => by
    by_cases q : ∃ i, i ≤ K ∧ g i = g (K + 1)
    · obtain ⟨i, hi, e⟩ := q
      exact ⟨i, K + 1, by omega, Nat.le_refl _, e⟩
    · obtain ⟨i, j, h1, h2, e⟩ := pigeon K (fun i => if g (K + 1) < g i then g i - 1 else g i) (fun m hm => by
        have a := h m (by omega)
        have b := h (K + 1) (Nat.le_refl _)
        have c : g m ≠ g (K + 1) := fun e => q ⟨m, hm, e⟩
        show (if g (K + 1) < g m then g m - 1 else g m) < K
        split <;> omega)
      refine ⟨i, j, h1, by omega, ?_⟩
      have c1 : g i ≠ g (K + 1) := fun e => q ⟨i, by omega, e⟩
      have c2 : g j ≠ g (K + 1) := fun e => q ⟨j, h2, e⟩
      have e' : (if g (K + 1) < g i then g i - 1 else g i) = (if g (K + 1) < g j then g j - 1 else g j) := e
      revert e'
      split <;> split <;> omega
def code (K : Nat) (B : Nat → Nat) : Nat → Nat
  | 0 => 0
  | k + 1 => code K B k * K + B k
theorem code_lt {K : Nat} {B : Nat → Nat} : ∀ (n : Nat), (∀ k, k < n → B k < K) → code K B n < K ^ n
  | 0, _ => by show 0 < 1; decide
  | n + 1, h => by
    have a := code_lt n fun k hk => h k (by omega)
    have b := h n (by omega)
    show code K B n * K + B n < K ^ n * K
    have c : (code K B n + 1) * K ≤ K ^ n * K := Nat.mul_le_mul_right K a
    rw [Nat.succ_mul] at c
    omega
theorem code_inj {K : Nat} {B B' : Nat → Nat} : ∀ (n : Nat), (∀ k, k < n → B k < K) → (∀ k, k < n → B' k < K) → code K B n = code K B' n → ∀ k, k < n → B k = B' k
  | 0, _, _, _ => fun k hk => by omega
  | n + 1, h, h', e => by
    have b := h n (by omega)
    have b' := h' n (by omega)
    have e2 : code K B n * K + B n = code K B' n * K + B' n := e
    have m1 : (code K B n * K + B n) % K = B n := by rw [Nat.mul_comm, Nat.mul_add_mod, Nat.mod_eq_of_lt b]
    have m2 : (code K B' n * K + B' n) % K = B' n := by rw [Nat.mul_comm, Nat.mul_add_mod, Nat.mod_eq_of_lt b']
    have q : B n = B' n := by rw [← m1, e2, m2]
    have q2 : code K B n = code K B' n := by
      have : code K B n * K = code K B' n * K := by omega
      exact Nat.eq_of_mul_eq_mul_right (by omega) this
    intro k hk
    by_cases z : k = n
    · rw [z]; exact q
    · exact code_inj n (fun k hk => h k (by omega)) (fun k hk => h' k (by omega)) q2 k (by omega)
section
variable {n R : Nat} {A : Mat}
theorem Inv1.same {S S' : Tb} (I : Inv1 n R A S) (I' : Inv1 n R A S') (e : ∀ k, k < n → S.B k = S'.B k) : S = S' := by
  have eB : S.B = S'.B := by
    funext k
    by_cases h : k < n
    · exact e k h
    · rw [I.B0 k h, I'.B0 k h]
  have eT : S.T = S'.T := by
    funext k j
    by_cases h : k < n ∧ j ≤ R + n
    · rw [I.tdet h.1 h.2, I'.tdet h.1 h.2, eB]
    · rw [I.T0 k j h, I'.T0 k j h]
  refine Tb.ext' eT ?_ eB (by rw [← I.det_, ← I'.det_, eB])
  funext j
  by_cases h : j ≤ R + n
  · rw [I.cost j h, I'.cost j h, eB, eT]
  · rw [I.c0 j h, I'.c0 j h]
def iterT (n R : Nat) (S : Tb) : Nat → Option Tb
  | 0 => some S
  | m + 1 => (iterT n R S m).bind (stepT n R)
theorem iter_inv {S : Tb} (I : Inv1 n R A S) : ∀ {m : Nat} {S' : Tb}, iterT n R S m = some S' → Inv1 n R A S'
  | 0, S', h => by
    have : S = S' := Option.some.inj h
    rw [← this]; exact I
  | m + 1, S', h => by
    obtain ⟨S1, h1, h2⟩ := Option.bind_eq_some_iff.mp h
    obtain ⟨p, r, s⟩ := stepT_of h2
    exact s.inv (iter_inv I h1)
/-- it ends -/
theorem ends {S : Tb} (I : Inv1 n R A S) (hU : ∀ k x, k < n → x < n → A (R + k) x = if k = x then 1 else 0) : ∃ m S', iterT n R S m = some S' ∧ enter R S' = none := by
  apply Classical.byContradiction
  intro no
  have go : ∀ m, ∃ S', iterT n R S m = some S' := by
    intro m
    induction m with
    | zero => exact ⟨S, rfl⟩
    | succ m ih =>
      obtain ⟨S', h⟩ := ih
      rcases (iter_inv I h).step with e | ⟨S2, h2, _⟩
      · exact absurd ⟨m, S', h, e⟩ no
      · exact ⟨S2, by show (iterT n R S m).bind _ = _; rw [h]; exact h2⟩
  obtain ⟨f, hf⟩ : ∃ f : Nat → Tb, ∀ m, iterT n R S m = some (f m) := ⟨fun m => (go m).choose, fun m => (go m).choose_spec⟩
  have inv : ∀ m, Inv1 n R A (f m) := fun m => iter_inv I (hf m)
  have nx : ∀ m, stepT n R (f m) = some (f (m + 1)) := fun m => by
    have a := hf (m + 1)
    have b : iterT n R S (m + 1) = (iterT n R S m).bind (stepT n R) := rfl
    rw [b, hf m] at a
    exact a
  obtain ⟨i, j, h1, _, e⟩ := pigeon ((R + n) ^ n) (fun m => code (R + n) (f m).B n) fun m _ => code_lt n (inv m).Bran
  have eS : f i = f j := (inv i).same (inv j) (code_inj n (inv i).Bran (inv j).Bran e)
  have shift : ∀ d, f (i + d) = f (j + d) := by
    intro d
    induction d with
    | zero => exact eS
    | succ d ih =>
      have a := nx (i + d)
      rw [ih, nx (j + d)] at a
      exact (Option.some.inj a).symm
  obtain ⟨p, hp⟩ : ∃ p : Nat → Nat, ∀ m, ∃ r, StepT n R (f m) (f (m + 1)) (p m) r := ⟨fun m => (stepT_of (nx m)).choose, fun m => (stepT_of (nx m)).choose_spec⟩
  obtain ⟨r, hr⟩ : ∃ r : Nat → Nat, ∀ m, StepT n R (f m) (f (m + 1)) (p m) (r m) := ⟨fun m => (hp m).choose, fun m => (hp m).choose_spec⟩
  refine Ring.no (n := n) (R := R) (A := A) (f := fun m => f (i + m)) (p := fun m => p (i + m)) (r := fun m => r (i + m)) (P := j - i) ⟨fun m => inv _, fun m => hr (i + m), fun m => ?_, by omega⟩ hU
  show f (i + (m + (j - i))) = f (i + m)
  rw [show i + (m + (j - i)) = j + m by omega, shift m]
/-! the end: weights, or a row -/
structure Start (n R : Nat) (A : Mat) : Prop where
  U : ∀ k x, k < n → x < n → A (R + k) x = if k = x then 1 else 0
  nn : ∀ x, x < n → 0 ≤ A (R + n) x
/-- the table at the beginning -/
def init (n R : Nat) (A : Mat) : Tb where
  T := fun k j => if k < n ∧ j ≤ R + n then A j k else 0
  c := fun j => if j ≤ R + n then sN n (fun k => A j k) else 0
  B := fun k => if k < n then R + k else 0
  D := 1
theorem init_inv (h : Start n R A) : Inv1 n R A (init n R A) where
  Dpos := by show (0 : Int) < 1; decide
  sol := fun j hj x hx => by
    show sN n (fun k => (if k < n ∧ j ≤ R + n then A j k else 0) * A (if k < n then R + k else 0) x) = 1 * A j x
    rw [sN_one (i := x) hx fun k hk ne => by rw [if_pos ⟨hk, hj⟩, if_pos hk, h.U k x hk hx, if_neg ne, Int.mul_zero], if_pos ⟨hx, hj⟩, if_pos hx, h.U x x hx hx, if_pos rfl]
    omega
  det_ := det_unit n _ fun k x hk hx => by
    show A (if k < n then R + k else 0) x = _
    rw [if_pos hk, h.U k x hk hx]
  Bran := fun k hk => by
    show (if k < n then R + k else 0) < R + n
    rw [if_pos hk]; omega
  rhs := fun k hk => by
    show 0 ≤ (if k < n ∧ R + n ≤ R + n then A (R + n) k else 0)
    rw [if_pos ⟨hk, Nat.le_refl _⟩]; exact h.nn k hk
  cost := fun j hj => by
    show (if j ≤ R + n then _ else _) = sN n (fun k => if R ≤ (if k < n then R + k else 0) then (if k < n ∧ j ≤ R + n then A j k else 0) else 0)
    rw [if_pos hj]
    refine sN_congr fun k hk => ?_
    rw [if_pos hk, if_pos (Nat.le_add_right _ _), if_pos ⟨hk, hj⟩]
  T0 := fun k j q => if_neg q
  c0 := fun j q => if_neg q
  B0 := fun k q => if_neg q
/-- the weights that stand in the last column -/
def wts (n R : Nat) (S : Tb) (j : Nat) : Int := sN n (fun k => if S.B k = j then S.T k (R + n) else 0)
theorem Inv1.wts_nn {S : Tb} (I : Inv1 n R A S) (j : Nat) : 0 ≤ wts n R S j := sN_nonneg fun k hk => by
  split
  · exact I.rhs k hk
  · exact Int.le_refl _
theorem Inv1.weights {S : Tb} (I : Inv1 n R A S) (h0 : S.c (R + n) = 0) {x : Nat} (hx : x < n) : sN R (fun j => wts n R S j * A j x) = S.D * A (R + n) x := by
  rw [← I.sol (R + n) (Nat.le_refl _) x hx]
  have hz := sN_eq_zero (fun k hk => by
    split
    · exact I.rhs k hk
    · exact Int.le_refl _) ((I.cost (R + n) (Nat.le_refl _)).symm.trans h0)
  have e : ∀ j, j < R → wts n R S j * A j x = sN n (fun k => if S.B k = j then S.T k (R + n) * A j x else 0) := fun j _ => by
    unfold wts
    rw [Int.mul_comm, ← sN_mul]
    refine sN_congr fun k _ => ?_
    by_cases q : S.B k = j
    · rw [if_pos q, if_pos q, Int.mul_comm]
    · rw [if_neg q, if_neg q, Int.mul_zero]
  rw [sN_congr e, sN_swap]
  refine sN_congr fun k hk => ?_
  by_cases q : S.B k < R
  · rw [sN_one (i := S.B k) q fun j _ ne => if_neg (fun z => ne z.symm), if_pos rfl]
  · have := hz k hk
    rw [if_pos (by omega)] at this
    rw [this, Int.zero_mul]
    refine sN_zero fun j hj => ?_
    rw [if_neg (by omega)]
theorem Inv1.wts_at {S : Tb} (I : Inv1 n R A S) {k : Nat} (hk : k < n) : wts n R S (S.B k) = S.T k (R + n) := by
  unfold wts
  rw [sN_one (i := k) hk fun l hl ne => if_neg (fun e => ne (I.binj hl hk e)), if_pos rfl]
theorem wts_out {S : Tb} {j : Nat} (h : ∀ k, k < n → S.B k ≠ j) : wts n R S j = 0 := sN_zero fun k hk => if_neg (h k hk)
/-- sizes -/
theorem Inv1.absT {S : Tb} (I : Inv1 n R A S) {C : Nat} (hC : ∀ j x, j ≤ R + n → x < n → (A j x).natAbs ≤ C) (k j : Nat) : (S.T k j).natAbs ≤ facP n C := by
  by_cases h : k < n ∧ j ≤ R + n
  · rw [I.tdet h.1 h.2]
    refine det_abs n _ fun l x hl hx => ?_
    by_cases e : l = k
    · rw [e, rep_same]; exact hC _ _ h.2 hx
    · rw [rep_ne e]; exact hC _ _ (by have := I.Bran l hl; omega) hx
  · rw [I.T0 k j h]; exact Nat.zero_le _
theorem Inv1.absD {S : Tb} (I : Inv1 n R A S) {C : Nat} (hC : ∀ j x, j ≤ R + n → x < n → (A j x).natAbs ≤ C) : S.D.natAbs ≤ facP n C := by
  rw [← I.det_]
  exact det_abs n _ fun l x hl hx => hC _ _ (by have := I.Bran l hl; omega) hx
theorem Inv1.absC {S : Tb} (I : Inv1 n R A S) {C : Nat} (hC : ∀ j x, j ≤ R + n → x < n → (A j x).natAbs ≤ C) (j : Nat) : (S.c j).natAbs ≤ n * facP n C := by
  by_cases h : j ≤ R + n
  · rw [I.cost j h]
    refine sN_abs fun k hk => ?_
    split
    · exact I.absT hC k j
    · exact Nat.zero_le _
  · rw [I.c0 j h]; exact Nat.zero_le _
theorem Inv1.absW {S : Tb} (I : Inv1 n R A S) {C : Nat} (hC : ∀ j x, j ≤ R + n → x < n → (A j x).natAbs ≤ C) (j : Nat) : (wts n R S j).natAbs ≤ n * facP n C := sN_abs fun k hk => by
  split
  · exact I.absT hC k _
  · exact Nat.zero_le _
end
end K28
end
section
set_option Elab.async false
set_option maxRecDepth 100000
namespace K28
/-! rows as lists, papers and points -/
def dot (xs ys : List Int) : Int := (List.zipWith (fun x y => x * y) xs ys).sum
def comb (ws : List Int) (rows : List (List Int)) (x : Nat) : Int := (List.zipWith (fun w r => w * r.getD x 0) ws rows).sum
theorem sN_shift (n : Nat) (f : Nat → Int) : sN (n + 1) f = f 0 + sN n (fun k => f (k + 1)) := by
  induction n with
  | zero => show 0 + f 0 = f 0 + 0; omega
  | succ n ih =>
    show sN (n + 1) f + f (n + 1) = f 0 + (sN n (fun k => f (k + 1)) + f (n + 1))
    rw [ih]; omega
theorem zw_sum {α β : Type} (f : α → β → Int) (d : α) (e : β) : ∀ (xs : List α) (ys : List β), xs.length = ys.length → (List.zipWith f xs ys).sum = sN xs.length (fun i => f (xs.getD i d) (ys.getD i e))
  | [], _, _ => by simp [sN]
  | x :: xs, [], h => by simp at h
  | x :: xs, y :: ys, h => by
    rw [List.zipWith_cons_cons, List.sum_cons, zw_sum f d e xs ys (by simpa using h), List.length_cons, sN_shift]
    rfl
theorem dot_sN {xs ys : List Int} (h : xs.length = ys.length) : dot xs ys = sN xs.length (fun x => xs.getD x 0 * ys.getD x 0) := zw_sum _ 0 0 xs ys h
theorem comb_sN {ws : List Int} {rows : List (List Int)} {x : Nat} (h : ws.length = rows.length) : comb ws rows x = sN ws.length (fun j => ws.getD j 0 * (rows.getD j []).getD x 0) := zw_sum _ 0 [] ws rows h
/-! gcd -/
def gcdL (xs : List Int) : Int := xs.foldl (fun c x => ((Int.gcd c x : Nat) : Int)) 0
def divd (xs : List Int) : List Int := if gcdL xs = 0 then xs else xs.map (· / gcdL xs)
theorem gcd_go : ∀ (xs : List Int) (c : Int), 0 ≤ c → 0 ≤ xs.foldl (fun c x => ((Int.gcd c x : Nat) : Int)) c ∧ (xs.foldl (fun c x => ((Int.gcd c x : Nat) : Int)) c ∣ c) ∧ ∀ x ∈ xs, xs.foldl (fun c x => ((Int.gcd c x : Nat) : Int)) c ∣ x
  | [], c, h => ⟨h, Int.dvd_refl _, fun x hx => by cases hx⟩
  | y :: ys, c, h => by
    obtain ⟨h1, h2, h3⟩ := gcd_go ys ((Int.gcd c y : Nat) : Int) (by omega)
    refine ⟨h1, Int.dvd_trans h2 (Int.gcd_dvd_left ..), fun x hx => ?_⟩
    rcases List.mem_cons.mp hx with e | e
    · rw [e]; exact Int.dvd_trans h2 (Int.gcd_dvd_right ..)
    · exact h3 x e
theorem divd_len (xs : List Int) : (divd xs).length = xs.length := by
  unfold divd; split <;> simp
theorem divd_spec (xs : List Int) : ∃ g : Int, 0 < g ∧ ∀ i, xs.getD i 0 = g * (divd xs).getD i 0 := by
  unfold divd
  by_cases h : gcdL xs = 0
  · rw [if_pos h]; exact ⟨1, by decide, fun i => (Int.one_mul _).symm⟩
  · rw [if_neg h]
    obtain ⟨h1, _, h3⟩ := gcd_go xs 0 (Int.le_refl _)
    refine ⟨gcdL xs, ?_, fun i => ?_⟩
    · have : 0 ≤ gcdL xs := h1
      omega
    · by_cases hi : i < xs.length
      · simp only [List.getD_eq_getElem?_getD, List.getElem?_map, List.getElem?_eq_getElem hi, Option.map_some, Option.getD_some]
        exact (Int.mul_ediv_cancel' (h3 _ (List.getElem_mem hi))).symm
      · simp only [List.getD_eq_getElem?_getD, List.getElem?_map, List.getElem?_eq_none (Nat.le_of_not_lt hi), Option.map_none, Option.getD_none, Int.mul_zero]
theorem divd_abs {xs : List Int} {B : Nat} (h : ∀ i, (xs.getD i 0).natAbs ≤ B) (i : Nat) : ((divd xs).getD i 0).natAbs ≤ B := by
  obtain ⟨g, hg, e⟩ := divd_spec xs
  have := h i
  rw [e i, Int.natAbs_mul] at this
  exact Nat.le_trans (Nat.le_mul_of_pos_left _ (by omega)) this
/-! the columns -/
def bwall (n : Nat) : List Int := List.replicate (n - 1) 0 ++ [1]
def rowsA (rows : List (List Int)) (n : Nat) (want : List Int) : Mat := fun j x => if j < rows.length then (rows.getD j []).getD x 0 else if j < rows.length + n then (if j - rows.length = x then 1 else 0) else want.getD x 0
theorem rowsA_start {rows : List (List Int)} {n : Nat} {want : List Int} (h : ∀ x, x < n → 0 ≤ want.getD x 0) : Start n rows.length (rowsA rows n want) where
  U := fun k x hk hx => by
    unfold rowsA
    rw [if_neg (by omega), if_pos (by omega), show rows.length + k - rows.length = k by omega]
  nn := fun x hx => by
    unfold rowsA
    rw [if_neg (by omega), if_neg (by omega)]
    exact h x hx
theorem rowsA_row {rows : List (List Int)} {n j x : Nat} {want : List Int} (h : j < rows.length) : rowsA rows n want j x = (rows.getD j []).getD x 0 := if_pos h
theorem rowsA_want {rows : List (List Int)} {n x : Nat} {want : List Int} : rowsA rows n want (rows.length + n) x = want.getD x 0 := by
  unfold rowsA
  rw [if_neg (by omega), if_neg (by omega)]
theorem rowsA_abs {rows : List (List Int)} {n C : Nat} {want : List Int} (h1 : ∀ r ∈ rows, ∀ x, (r.getD x 0).natAbs ≤ C) (h2 : ∀ x, (want.getD x 0).natAbs ≤ C) (hC : 1 ≤ C) (j x : Nat) : (rowsA rows n want j x).natAbs ≤ C := by
  unfold rowsA
  by_cases h : j < rows.length
  · rw [if_pos h, show rows.getD j [] = rows[j] by rw [List.getD_eq_getElem?_getD, List.getElem?_eq_getElem h]; rfl]
    exact h1 _ (List.getElem_mem h) x
  · rw [if_neg h]
    split
    · split
      · exact hC
      · exact Nat.zero_le _
    · exact h2 x
/-- what solved gives -/
structure SolW (n R : Nat) (A : Mat) (Bd : Nat) (ws : Nat → Int) (D : Int) : Prop where
  pos : 0 < D
  dB : D.natAbs ≤ Bd
  nn : ∀ j, 0 ≤ ws j
  wB : ∀ j, (ws j).natAbs ≤ Bd
  eq : ∀ x, x < n → sN R (fun j => ws j * A j x) = D * A (R + n) x
structure SolP (n R : Nat) (A : Mat) (Bd : Nat) (u : Nat → Int) : Prop where
  uB : ∀ k, (u k).natAbs ≤ Bd
  le : ∀ j, j < R → sN n (fun x => A j x * u x) ≤ 0
  pos : 0 < sN n (fun x => A (R + n) x * u x)
/-- the columns that are asked, of a room and one wall more -/
def cols3 (n : Nat) (walls : List (List Int)) (more : List (List Int)) : List (List Int) := walls.map (· ++ [0]) ++ (bwall n :: more).map (· ++ [1])
def wantL (n : Nat) : List Int := List.replicate n 0 ++ [1]
theorem wantL_get (n x : Nat) : (wantL n).getD x 0 = if x = n then 1 else 0 := by
  unfold wantL
  rw [List.getD_eq_getElem?_getD]
  by_cases h : x < n
  · rw [List.getElem?_append_left (by simpa using h), if_neg (by omega)]; simp [h]
  · rw [List.getElem?_append_right (by simpa using h)]
    by_cases e : x = n
    · subst e; simp
    · rw [if_neg e, List.getElem?_eq_none (by simp; omega)]; rfl
theorem bwall_get (n x : Nat) (hn : 1 ≤ n) : (bwall n).getD x 0 = if x + 1 = n then 1 else 0 := by
  unfold bwall
  rw [List.getD_eq_getElem?_getD]
  by_cases h : x < n - 1
  · rw [List.getElem?_append_left (by simpa using h), if_neg (by omega)]; simp [h]
  · rw [List.getElem?_append_right (by simpa using h)]
    by_cases e : x + 1 = n
    · subst e; simp
    · rw [if_neg e, List.getElem?_eq_none (by simp; omega)]; rfl
theorem bwall_len {n : Nat} (hn : 1 ≤ n) : (bwall n).length = n := by unfold bwall; simp; omega
/-- a paper that holds -/
structure IsPap (walls : List (List Int)) (wall : List Int) (Bd : Nat) (m b : Int) (ws : List Int) : Prop where
  len : ws.length = walls.length
  m0 : 0 ≤ m
  b0 : 0 ≤ b
  w0 : ∀ w ∈ ws, 0 ≤ w
  mb : 1 ≤ m + b
  mB : m.natAbs ≤ Bd
  bB : b.natAbs ≤ Bd
  wB : ∀ w ∈ ws, w.natAbs ≤ Bd
  eq : ∀ x, x < wall.length → comb ws walls x + (if x + 1 = wall.length then b else 0) = m * wall.getD x 0
/-- a point that shows that it does not follow -/
structure IsPt (walls : List (List Int)) (wall : List Int) (Bd : Nat) (pt : List Int) : Prop where
  len : pt.length = wall.length
  last : 1 ≤ pt.getD (wall.length - 1) 0
  walls : ∀ r ∈ walls, 0 ≤ dot r pt
  wall : dot wall pt < 0
  pB : ∀ x ∈ pt, x.natAbs ≤ Bd
theorem snoc_get {r : List Int} {v : Int} {x : Nat} : (r ++ [v]).getD x 0 = if x < r.length then r.getD x 0 else if x = r.length then v else 0 := by
  simp only [List.getD_eq_getElem?_getD]
  by_cases h : x < r.length
  · rw [List.getElem?_append_left h, if_pos h]
  · rw [if_neg h, List.getElem?_append_right (by omega)]
    by_cases e : x = r.length
    · subst e; simp
    · rw [if_neg e, List.getElem?_eq_none (by simp; omega)]; rfl
theorem neg_get {r : List Int} {x : Nat} : (r.map (fun v => -v)).getD x 0 = - r.getD x 0 := by
  simp only [List.getD_eq_getElem?_getD, List.getElem?_map]
  cases r[x]? <;> simp
theorem cols3_len {n : Nat} {walls more : List (List Int)} : (cols3 n walls more).length = walls.length + (1 + more.length) := by unfold cols3; simp; omega
theorem cols3_lo {n j : Nat} {walls more : List (List Int)} (h : j < walls.length) : (cols3 n walls more).getD j [] = walls.getD j [] ++ [0] := by
  unfold cols3
  simp only [List.getD_eq_getElem?_getD]
  rw [List.getElem?_append_left (by simpa using h), List.getElem?_map, List.getElem?_eq_getElem h]; rfl
theorem cols3_bw {n : Nat} {walls more : List (List Int)} : (cols3 n walls more).getD walls.length [] = bwall n ++ [1] := by
  unfold cols3
  simp only [List.getD_eq_getElem?_getD]
  rw [List.getElem?_append_right (by simp)]; simp
theorem cols3_mo {n : Nat} {walls : List (List Int)} {w : List Int} : (cols3 n walls [w]).getD (walls.length + 1) [] = w ++ [1] := by
  unfold cols3
  simp only [List.getD_eq_getElem?_getD]
  rw [List.getElem?_append_right (by simp)]; simp
section
variable {n Bd : Nat} {walls : List (List Int)} {wall : List Int}
theorem getD_of {α : Type} {l : List α} {j : Nat} {d : α} (h : j < l.length) : l.getD j d = l[j] := by
  rw [List.getD_eq_getElem?_getD, List.getElem?_eq_getElem h]; rfl
theorem take_get {l : List Int} {k j : Nat} (h : j < k) : (l.take k).getD j 0 = l.getD j 0 := by
  simp only [List.getD_eq_getElem?_getD]
  rw [List.getElem?_take_of_lt h]
theorem pos_right {a b : Int} (h : 0 < a) (h' : 0 < a * b) : 0 < b := by
  rcases Int.lt_or_le 0 b with z | z
  · exact z
  · have := Int.mul_nonpos_of_nonneg_of_nonpos (Int.le_of_lt h) z; omega
theorem nn_right {a b : Int} (h : 0 < a) (h' : 0 ≤ a * b) : 0 ≤ b := by
  rcases Int.lt_or_le b 0 with z | z
  · have := Int.mul_neg_of_pos_of_neg h z; omega
  · exact z
theorem neg_right {a b : Int} (h : 0 < a) (h' : a * b < 0) : b < 0 := by
  rcases Int.lt_or_le b 0 with z | z
  · exact z
  · have := Int.mul_nonneg (Int.le_of_lt h) z; omega
/-- weights become a paper -/
theorem pap_of (hn : 1 ≤ n) (hw : ∀ r ∈ walls, r.length = n) (hl : wall.length = n) {ws : Nat → Int} {D : Int} {ns : List Int} (hns : ns.length = walls.length + 2) (hget : ∀ j, j < walls.length + 2 → ns.getD j 0 = ws j)
    (S : SolW (n + 1) (walls.length + 2) (rowsA (cols3 n walls [wall.map (fun v => -v)]) (n + 1) (wantL n)) Bd ws D) :
    IsPap walls wall Bd ((divd ns).getD (walls.length + 1) 0) ((divd ns).getD walls.length 0) ((divd ns).take walls.length) := by
  obtain ⟨g, hg, eg⟩ := divd_spec ns
  have nnD : ∀ j, 0 ≤ (divd ns).getD j 0 := fun j => by
    by_cases h : j < walls.length + 2
    · have h1 := S.nn j
      rw [← hget j h, eg j] at h1
      rcases Int.lt_or_le ((divd ns).getD j 0) 0 with z | z
      · have := Int.mul_neg_of_pos_of_neg hg z; omega
      · exact z
    · rw [List.getD_eq_getElem?_getD, List.getElem?_eq_none (by rw [divd_len]; omega)]; exact Int.le_refl _
  have abD : ∀ j, ((divd ns).getD j 0).natAbs ≤ Bd := divd_abs fun j => by
    by_cases h : j < walls.length + 2
    · rw [hget j h]; exact S.wB j
    · rw [List.getD_eq_getElem?_getD, List.getElem?_eq_none (by omega)]; exact Nat.zero_le _
  have lenc : (cols3 n walls [wall.map (fun v => -v)]).length = walls.length + 2 := cols3_len
  have memT : ∀ w ∈ (divd ns).take walls.length, ∃ j, w = (divd ns).getD j 0 := fun w h => by
    obtain ⟨j, hj, e⟩ := List.mem_iff_getElem.mp (List.mem_of_mem_take h)
    exact ⟨j, by rw [getD_of hj]; exact e.symm⟩
  have lenT : ((divd ns).take walls.length).length = walls.length := by rw [List.length_take, divd_len, hns]; omega
  have hes : ∀ x, sN (walls.length + 2) (fun j => ws j * rowsA (cols3 n walls [wall.map (fun v => -v)]) (n + 1) (wantL n) j x) =
        g * (sN walls.length (fun j => (divd ns).getD j 0 * ((walls.getD j []) ++ [0]).getD x 0) + (divd ns).getD walls.length 0 * (bwall n ++ [1]).getD x 0 + (divd ns).getD (walls.length + 1) 0 * (wall.map (fun v => -v) ++ [1]).getD x 0) := fun x => by
      show sN walls.length (fun j => ws j * rowsA (cols3 n walls [wall.map (fun v => -v)]) (n + 1) (wantL n) j x) + ws walls.length * rowsA (cols3 n walls [wall.map (fun v => -v)]) (n + 1) (wantL n) walls.length x + ws (walls.length + 1) * rowsA (cols3 n walls [wall.map (fun v => -v)]) (n + 1) (wantL n) (walls.length + 1) x = _
      rw [rowsA_row (j := walls.length) (by omega), rowsA_row (j := walls.length + 1) (by omega), cols3_bw, cols3_mo, ← hget walls.length (by omega), ← hget (walls.length + 1) (by omega), eg walls.length, eg (walls.length + 1), Int.mul_add, Int.mul_add, ← sN_mul, Int.mul_assoc, Int.mul_assoc]
      congr 2
      refine sN_congr fun j hj => ?_
      rw [rowsA_row (by omega), cols3_lo hj, ← hget j (by omega), eg j, Int.mul_assoc]
  have hrow : ∀ x, x < n + 1 → sN walls.length (fun j => (divd ns).getD j 0 * ((walls.getD j []) ++ [0]).getD x 0) + (divd ns).getD walls.length 0 * (bwall n ++ [1]).getD x 0 + (divd ns).getD (walls.length + 1) 0 * (wall.map (fun v => -v) ++ [1]).getD x 0 = 0 ∨ (x = n ∧
      0 < sN walls.length (fun j => (divd ns).getD j 0 * ((walls.getD j []) ++ [0]).getD x 0) + (divd ns).getD walls.length 0 * (bwall n ++ [1]).getD x 0 + (divd ns).getD (walls.length + 1) 0 * (wall.map (fun v => -v) ++ [1]).getD x 0) := fun x hx => by
    have e := S.eq x hx
    have ew : rowsA (cols3 n walls [wall.map (fun v => -v)]) (n + 1) (wantL n) (walls.length + 2 + (n + 1)) x = (wantL n).getD x 0 := by
      rw [← lenc]; exact rowsA_want
    rw [hes x, ew, wantL_get] at e
    by_cases hxn : x = n
    · rw [if_pos hxn, Int.mul_one] at e
      refine .inr ⟨hxn, ?_⟩
      have := S.pos
      rw [← e] at this
      exact pos_right hg this
    · rw [if_neg hxn, Int.mul_zero] at e
      exact .inl ((Int.mul_eq_zero.mp e).resolve_left (by omega))
  have r0 : ∀ j x, j < walls.length → x < n → ((walls.getD j []) ++ [0]).getD x 0 = (walls.getD j []).getD x 0 := fun j x hj hx => by
    rw [snoc_get, if_pos]
    rw [getD_of hj, hw _ (List.getElem_mem hj)]; exact hx
  have hc : ∀ x, comb ((divd ns).take walls.length) walls x = sN walls.length (fun j => (divd ns).getD j 0 * (walls.getD j []).getD x 0) := fun x => by
    rw [comb_sN lenT, lenT]
    exact sN_congr fun j hj => by rw [take_get hj]
  refine ⟨lenT, nnD _, nnD _, fun w h => ?_, ?_, abD _, abD _, fun w h => ?_, fun x hx => ?_⟩
  · obtain ⟨j, e⟩ := memT w h
    rw [e]; exact nnD j
  · have e := (hrow n (by omega)).resolve_left ?_
    · have e2 := e.2
      have eA : (bwall n ++ [1]).getD n 0 = 1 := by rw [snoc_get, bwall_len hn, if_neg (by omega), if_pos rfl]
      have eB : (wall.map (fun v => -v) ++ [1]).getD n 0 = 1 := by rw [snoc_get, List.length_map, hl, if_neg (by omega), if_pos rfl]
      rw [sN_zero fun j hj => ?_, eA, eB] at e2
      · omega
      · rw [snoc_get, getD_of hj, hw _ (List.getElem_mem hj), if_neg (by omega), if_pos rfl, Int.mul_zero]
    · intro z
      have e := S.eq n (by omega)
      have hp := S.pos
      have h2 : 0 < g * (sN walls.length (fun j => (divd ns).getD j 0 * ((walls.getD j []) ++ [0]).getD n 0) + (divd ns).getD walls.length 0 * (bwall n ++ [1]).getD n 0 + (divd ns).getD (walls.length + 1) 0 * (wall.map (fun v => -v) ++ [1]).getD n 0) := by
        rw [← hes n, e, ← lenc, rowsA_want, wantL_get, if_pos rfl, Int.mul_one]; exact hp
      rw [z, Int.mul_zero] at h2
      exact absurd h2 (by decide)
  · obtain ⟨j, e⟩ := memT w h
    rw [e]; exact abD j
  · rw [hl] at hx
    have e := (hrow x (by omega)).resolve_right (fun z => by omega)
    rw [hc, hl]
    rw [sN_congr (g := fun j => (divd ns).getD j 0 * (walls.getD j []).getD x 0) fun j hj => by rw [r0 j x hj hx], snoc_get, snoc_get, bwall_len hn, List.length_map, hl, if_pos hx, if_pos hx, bwall_get n x hn, neg_get, Int.mul_neg] at e
    by_cases q : x + 1 = n
    · rw [if_pos q] at e ⊢; omega
    · rw [if_neg q] at e ⊢; omega
/-- a row becomes a point -/
theorem pt_of (hn : 1 ≤ n) (hw : ∀ r ∈ walls, r.length = n) (hl : wall.length = n) {u : Nat → Int} {ns : List Int} (hns : ns.length = n) (hget : ∀ j, j < n → ns.getD j 0 = - u j)
    (S : SolP (n + 1) (walls.length + 2) (rowsA (cols3 n walls [wall.map (fun v => -v)]) (n + 1) (wantL n)) Bd u) : IsPt walls wall Bd (divd ns) := by
  obtain ⟨g, hg, eg⟩ := divd_spec ns
  have lenc : (cols3 n walls [wall.map (fun v => -v)]).length = walls.length + 2 := cols3_len
  have up : 0 < u n := by
    have e := S.pos
    rw [← lenc] at e
    rw [sN_congr (g := fun x => if x = n then u n else 0) fun x hx => ?_, sN_one (i := n) (by omega) fun k hk ne => if_neg ne, if_pos rfl] at e
    · exact e
    · rw [rowsA_want, wantL_get]
      by_cases q : x = n
      · rw [if_pos q, if_pos q, q]; omega
      · rw [if_neg q, if_neg q, Int.zero_mul]
  have lp : (divd ns).length = n := by rw [divd_len, hns]
  have hd : ∀ r : List Int, r.length = n → g * dot r (divd ns) = - sN n (fun x => r.getD x 0 * u x) := fun r hr => by
    rw [dot_sN (by rw [hr, lp]), hr, ← sN_mul]
    have : ∀ m, m ≤ n → sN m (fun k => g * (r.getD k 0 * (divd ns).getD k 0)) = - sN m (fun x => r.getD x 0 * u x) := fun m => by
      induction m with
      | zero => intro _; rfl
      | succ m ih =>
        intro hm
        show sN m _ + g * (r.getD m 0 * (divd ns).getD m 0) = - (sN m _ + r.getD m 0 * u m)
        rw [ih (by omega), Int.mul_left_comm, ← eg m, hget m (by omega), Int.mul_neg]; omega
    exact this n (Nat.le_refl _)
  have hrow : ∀ (r : List Int) (v : Int) (j : Nat), j < walls.length + 2 → (cols3 n walls [wall.map (fun v => -v)]).getD j [] = r ++ [v] → r.length = n → sN n (fun x => r.getD x 0 * u x) + v * u n ≤ 0 := fun r v j hj e hr => by
    have h := S.le j hj
    rw [show sN (n + 1) (fun x => rowsA (cols3 n walls [wall.map (fun v => -v)]) (n + 1) (wantL n) j x * u x) = sN n (fun x => r.getD x 0 * u x) + v * u n from ?_] at h
    · exact h
    · show sN n (fun x => rowsA (cols3 n walls [wall.map (fun v => -v)]) (n + 1) (wantL n) j x * u x) + rowsA (cols3 n walls [wall.map (fun v => -v)]) (n + 1) (wantL n) j n * u n = _
      rw [rowsA_row (j := j) (x := n) (by omega), e, snoc_get, hr, if_neg (by omega), if_pos rfl]
      congr 1
      refine sN_congr fun x hx => ?_
      rw [rowsA_row (j := j) (x := x) (by omega), e, snoc_get, hr, if_pos hx]
  refine ⟨by rw [lp, hl], ?_, fun r hr => ?_, ?_, fun x hx => ?_⟩
  · have h := hrow (bwall n) 1 walls.length (by omega) cols3_bw (bwall_len hn)
    rw [sN_congr (g := fun x => if x = n - 1 then u (n - 1) else 0) fun x hx => ?_, sN_one (i := n - 1) (by omega) fun k hk ne => if_neg ne, if_pos rfl] at h
    · have e := eg (n - 1)
      rw [hget _ (by omega)] at e
      rw [hl]
      have : 0 < g * (divd ns).getD (n - 1) 0 := by rw [← e]; omega
      exact pos_right hg this
    · rw [bwall_get n x hn]
      by_cases q : x = n - 1
      · rw [if_pos (by omega), if_pos q, q]; omega
      · rw [if_neg (by omega), if_neg q, Int.zero_mul]
  · obtain ⟨j, hj, e⟩ := List.mem_iff_getElem.mp hr
    have h := hrow r 0 j (by omega) (by rw [cols3_lo hj, getD_of hj, e]) (hw r hr)
    rw [Int.zero_mul, Int.add_zero] at h
    refine nn_right hg ?_
    rw [hd r (hw r hr)]; omega
  · have h := hrow (wall.map (fun v => -v)) 1 (walls.length + 1) (by omega) cols3_mo (by rw [List.length_map]; exact hl)
    have e : sN n (fun x => (wall.map (fun v => -v)).getD x 0 * u x) = - sN n (fun x => wall.getD x 0 * u x) := by
      have : ∀ m, sN m (fun x => (wall.map (fun v => -v)).getD x 0 * u x) = - sN m (fun x => wall.getD x 0 * u x) := fun m => by
        induction m with
        | zero => rfl
        | succ m ih =>
          show sN m _ + (wall.map (fun v => -v)).getD m 0 * u m = - (sN m _ + wall.getD m 0 * u m)
          rw [ih, neg_get, Int.neg_mul]; omega
      exact this n
    rw [e] at h
    refine neg_right hg ?_
    rw [hd wall hl]; omega
  · obtain ⟨j, hj, e⟩ := List.mem_iff_getElem.mp hx
    rw [← e, ← getD_of (d := 0) hj]
    refine divd_abs (fun i => ?_) j
    by_cases h : i < n
    · rw [hget i h, Int.natAbs_neg]; exact S.uB i
    · rw [List.getD_eq_getElem?_getD, List.getElem?_eq_none (by omega)]; exact Nat.zero_le _
/-- a wall of the room is its own paper -/
theorem pap_unit (hB : 1 ≤ Bd) {i : Nat} (hi : i < walls.length) (e : walls.getD i [] = wall) : IsPap walls wall Bd 1 0 ((List.range walls.length).map fun p => if i = p then 1 else 0) where
  len := by simp
  m0 := by decide
  b0 := by decide
  w0 := fun w h => by
    obtain ⟨p, _, rfl⟩ := List.mem_map.mp h
    split <;> decide
  mb := by decide
  mB := hB
  bB := Nat.zero_le _
  wB := fun w h => by
    obtain ⟨p, _, rfl⟩ := List.mem_map.mp h
    split
    · exact hB
    · exact Nat.zero_le _
  eq := fun x hx => by
    rw [comb_sN (by simp), show (List.map (fun p => if i = p then (1 : Int) else 0) (List.range walls.length)).length = walls.length by simp]
    rw [sN_one (i := i) hi fun k hk ne => ?_]
    · rw [e]
      have : ((List.range walls.length).map fun p => if i = p then (1 : Int) else 0).getD i 0 = 1 := by simp [List.getD_eq_getElem?_getD, hi]
      rw [this]
      split <;> omega
    · have : ((List.range walls.length).map fun p => if i = p then (1 : Int) else 0).getD k 0 = 0 := by
        simp only [List.getD_eq_getElem?_getD, List.getElem?_map, List.getElem?_range hk, Option.map_some, Option.getD_some]
        rw [if_neg (fun z => ne z.symm)]
      rw [this, Int.zero_mul]
end
theorem gcd_zero : ∀ (xs : List Int), (∀ x ∈ xs, x = 0) → gcdL xs = 0 := by
  intro xs h
  unfold gcdL
  induction xs with
  | nil => rfl
  | cons y ys ih =>
    rw [List.foldl_cons, h y (List.mem_cons_self ..)]
    exact ih fun x hx => h x (List.mem_cons_of_mem _ hx)
theorem gcd_pos {xs : List Int} (h : gcdL xs ≠ 0) : 0 < gcdL xs ∧ ∀ B : Nat, (∀ x ∈ xs, x.natAbs < B) → (gcdL xs).natAbs < B := by
  obtain ⟨h1, _, h3⟩ := gcd_go xs 0 (Int.le_refl _)
  have h1' : 0 ≤ gcdL xs := h1
  refine ⟨by omega, fun B hB => ?_⟩
  apply Classical.byContradiction
  intro no
  refine h (gcd_zero xs fun x hx => ?_)
  have d : gcdL xs ∣ x := h3 x hx
  have b := hB x hx
  obtain ⟨k, e⟩ := d
  have : x.natAbs = (gcdL xs).natAbs * k.natAbs := by rw [e, Int.natAbs_mul]
  rcases Nat.eq_zero_or_pos k.natAbs with z | z
  · rw [z, Nat.mul_zero] at this; omega
  · have := Nat.le_mul_of_pos_right (gcdL xs).natAbs z; omega
end K28
end
section
set_option Elab.async false
set_option linter.all false
set_option maxRecDepth 100000
set_option maxHeartbeats 2000000
/-! zip and enumerate over lists and tuples in any mix: k says whether it is a list -/
namespace K28
open PySem PySem.Spec PyProof.Rows L2
/-- a list (k) or a tuple -/
def SqB (k : Bool) (K : PySem.W.Frag) (H : Hp) (a : Addr) (xs : List V) : Prop := match k with
  | true => SqL K H a xs
  | false => SqT K H a xs
def HasB (k : Bool) (h : Heap) (a : Addr) (its : Array Value) : Prop := match k with
  | true => h.IsList a its
  | false => h.IsTuple a its
def IterB (k : Bool) (h : Heap) (it a : Addr) (i : Nat) : Prop := match k with
  | true => h.IsListIter it a i
  | false => h.IsTupleIter it a i
def objB (k : Bool) (a : Addr) : Obj := match k with
  | true => { cls := .type "list_iterator", data := .fields #[.ref a, .int 0 0] }
  | false => { cls := .type "tuple_iterator", data := .fields #[.ref a, .int 0 0] }
theorem begB (k : Bool) (a : Addr) (its : Array Value) : Begins (.ref a) (objB k a) (fun h => HasB k h a its) := by
  cases k
  · exact begins_tuple a its
  · exact begins_list a its
theorem drawB {P : Program} {w : World} {A : Around} (hh : A.handled = none) (k : Bool) (it a : Addr) (ne : a ≠ it) (its : Array Value) :
    Draws P w A it [it, a] its.size (fun i v => its[i]? = some v) (fun i h => IterB k h it a i ∧ HasB k h a its) := by
  cases k
  · exact Draws.tuple hh it a ne its
  · exact Draws.list hh it a ne its
theorem iterB_0 {k : Bool} {h : Heap} {it a : Addr} (e : h.get? it = some (objB k a)) : IterB k h it a 0 := by
  cases k
  · exact ⟨_, e, rfl, rfl⟩
  · exact ⟨_, e, rfl, rfl⟩
theorem iterB_obj {k : Bool} {h : Heap} {it a : Addr} {i : Nat} (x : IterB k h it a i) : ∃ o, h.get? it = some o ∧ ∀ v, o.data ≠ .cell v := by
  cases k
  · obtain ⟨o, e, _, d⟩ := x
    exact ⟨o, e, fun v q => by rw [d] at q; cases q⟩
  · obtain ⟨o, e, _, d⟩ := x
    exact ⟨o, e, fun v q => by rw [d] at q; cases q⟩
theorem iterB_at {k : Bool} {h h' : Heap} {it a : Addr} {i : Nat} (x : IterB k h it a i) (e : ∀ o, h.get? it = some o → h'.get? it = some o) : IterB k h' it a i := by
  cases k
  · exact Heap.IsTupleIter.at x e
  · exact Heap.IsListIter.at x e
section
variable {X : Cx} {pins : List (Addr × Obj)} {σ : L2.St} {H : Hp} {s : Shared} {a : Addr} {k : Bool} {xs ys : List V}
theorem inv_seqB (I : Inv X pins σ H s) (h : SqB k X.K H a xs) : ∃ its : List Value, Vals xs its ∧ HasB k s.heap a its.toArray ∧ xs.length ≤ sizeLine := by
  cases k
  · obtain ⟨its, r, p, z⟩ := I.tuple h
    exact ⟨its, r, p, z⟩
  · obtain ⟨its, r, p, z⟩ := I.list h
    exact ⟨its, r, p.isList, z⟩
theorem inv_injB (I : Inv X pins σ H s) (h : SqB k X.K H a xs) (h' : SqB k X.K H a ys) : xs = ys := by
  cases k
  · exact I.tuple_inj h h'
  · exact I.list_inj h h'
theorem hasB_lt {h : Heap} {its : Array Value} (x : HasB k h a its) : a < h.objs.size := by
  cases k
  · obtain ⟨o, e, _⟩ := x; exact Heap.lt_size e
  · obtain ⟨o, e, _⟩ := x; exact Heap.lt_size e
end
/-- the pairs of zip, each a new tuple -/
def ItzB (k j : Bool) (K : PySem.W.Frag) (a b : Addr) : It where
  go := fun i H => ∃ (xs ys : List V) (x y : V), SqB k K H a xs ∧ SqB j K H b ys ∧ xs[i]? = some x ∧ ys[i]? = some y
  yld := fun i H v H' => ∃ T x y, v = .ref T ∧ H T = none ∧ H' = upd H T (.tup [x, y]) ∧ (∀ xs, SqB k K H a xs → xs[i]? = some x) ∧ (∀ ys, SqB j K H b ys → ys[i]? = some y)
  stop := fun i H => ∃ xs ys : List V, SqB k K H a xs ∧ SqB j K H b ys ∧ i = min xs.length ys.length
/-- the pairs of enumerate -/
def IteB (k : Bool) (K : PySem.W.Frag) (a : Addr) : It where
  go := fun i H => ∃ (xs : List V) (x : V), SqB k K H a xs ∧ xs[i]? = some x
  yld := fun i H v H' => ∃ T x, v = .ref T ∧ H T = none ∧ H' = upd H T (.tup [.int (i : Nat), x]) ∧ (∀ xs, SqB k K H a xs → xs[i]? = some x)
  stop := fun i H => ∃ xs : List V, SqB k K H a xs ∧ i = xs.length
/-- an iterator of tuples that is a WalksT as long as its sources stand -/
theorem turn_of {P : Program} {w : World} {K : PySem.W.Frag} {elts : List Expr} {kk : Nat} {tpos : Pos} {J : It} {fp : List Addr} {z : Addr} {tn : Nat → Heap → Prop}
    (hmem : z ∈ fp) (hobj : ∀ i h, tn i h → ∀ b ∈ fp, ∃ o, h.get? b = some o ∧ ∀ v, o.data ≠ .cell v)
    (hkeep : ∀ i h h', tn i h → (∀ b ∈ fp, ∀ o, h.get? b = some o → h'.get? b = some o) → tn i h')
    (hpy : ∀ (A : Around) (i : Nat) (s : Shared) (Q : Value → Shared → Prop) (E : Value → Shared → Prop), tn i s.heap → Q (.ref z) s → wpAny (model P w) A (pyIter (.ref z)) Q E s)
    (hw : ∀ (X : Cx) (pins : List (Addr × Obj)) (s : Shared) (σ : L2.St) (H : Hp) (i : Nat), X.prog = P → X.w = w → X.K = K → X.calm = true → Inv X pins σ H s → tn i s.heap → (J.go i H ∨ J.stop i H) →
      ∃ (fq : List Addr) (n : Nat) (Pt : Nat → Array Value → Prop) (St : Nat → Heap → Prop) (Mid : Nat → Addr → Heap → Prop) (wr : List Addr), WalksT P w X.A z fq wr n Pt St Mid ∧ St i s.heap ∧ (∀ b ∈ wr, b ∈ fp) ∧ (∀ h, St (i + 1) h → tn (i + 1) h) ∧
        (J.stop i H → i = n) ∧ (J.go i H → i < n) ∧ (J.go i H → ∀ T us, Pt i us → H T = none → ∃ xs : List V, Vals xs us.toList ∧ xs.length ≤ sizeLine ∧ J.yld i H (.ref T) (upd H T (.tup xs)))) :
    Turn P w K (.Tuple elts kk tpos) J fp z tn where
  mem := hmem
  obj := hobj
  keep := hkeep
  item := by
    intro X e1 e2 e3 hc i pins s σ H E I hf st hg
    obtain ⟨fq, n, Pt, St, Mid, wr, W, st0, hwr, hnx, _, hlt, hy⟩ := hw X pins s σ H i e1 e2 e3 hc I st (.inl hg)
    subst e1 e2 e3
    refine W.item i s _ E (hlt hg) st0 fun T us h1 tk hP hT hTu hM hk => ?_
    have nT : H T = none := I.hok.fresh hT
    obtain ⟨xs, rv, hz, hyl⟩ := hy hg T us hP nT
    refine ⟨_, rfl, W.go elts kk tpos i T { s with heap := h1, toks := tk } _ E hM fun h2 st2 hk2 => ?_⟩
    have hTu2 : h2.IsTuple T us := by
      obtain ⟨o, e, r⟩ := hTu
      exact ⟨o, hk2 _ _ (W.apart _ _ _ hM) e, r⟩
    have new : ObjOk X.prog X.w (upd H T (.tup xs)) h2 T (.tup xs) := by
      refine ⟨hz, us.toList, rv, ?_⟩
      rw [Array.toArray_toList]
      exact hTu2
    have I1 : Inv X pins σ (upd H T (.tup xs)) { s with heap := h2, toks := tk } :=
      I.turnedNew (t' := tk) (ch := fp) (fun c o hb q => hk2 c o (fun q' => hb (hwr _ q')) (hk c o (fun q' => hb (hwr _ q')) q)) hf hT new
    refine ⟨.ref T, _, I1, rfl, hyl, hnx _ st2, fun c hcm => ?_⟩
    obtain ⟨o, eo, _⟩ := hobj i s.heap st c hcm
    rw [upd_ne (fun q => by
      have := Heap.lt_size eo
      rw [q] at this
      exact absurd hT (Nat.not_le_of_lt this))]
    exact (hf c hcm).1
  done := by
    intro X e1 e2 e3 hc i pins s σ H E I hf st hg
    obtain ⟨fq, n, Pt, St, Mid, wr, W, st0, hwr, _, hst, _, _⟩ := hw X pins s σ H i e1 e2 e3 hc I st (.inr hg)
    subst e1 e2 e3
    have en := hst hg
    rw [en] at st0
    refine W.done s _ E st0 fun h' tk hk => ⟨rfl, ?_⟩
    exact I.turnedL (t' := tk) (ch := fp) (fun c o hb q => hk c o (fun q' => hb (hwr _ q')) q) hf
  self := fun A i s Q E st h => hpy A i s Q E st h
def iZipB (k j : Bool) (K : PySem.W.Frag) (ta : TA) : TI := fun σ H R => ta σ H fun vs H1 => ∃ a b xs ys, vs = [.ref a, .ref b] ∧ SqB k K H1 a xs ∧ SqB j K H1 b ys ∧ R (ItzB k j K a b) H1
def iEnumB (k : Bool) (K : PySem.W.Frag) (ta : TA) : TI := fun σ H R => ta σ H fun vs H1 => ∃ a xs, vs = [.ref a] ∧ SqB k K H1 a xs ∧ R (IteB k K a) H1
theorem adij (n i j : Nat) (h : i ≠ j) : n + i ≠ n + j := by omega
theorem adi (n i : Nat) (h : i ≠ 0) : n + i ≠ n := by omega
theorem adlt (n a i : Nat) (h : a < n) : n + i ≠ a := by omega
theorem adlt0 (n a : Nat) (h : a < n) : n ≠ a := by omega
theorem not2 {α : Type} {c x y : α} (h1 : c ≠ x) (h2 : c ≠ y) : c ∉ [x, y] := by simp [h1, h2]
theorem fresh5 (n c : Nat) (h : c ∈ [n + 4, n + 2, n + 3, n, n + 1]) : n ≤ c := by
  simp only [List.mem_cons, List.not_mem_nil, or_false] at h
  omega
theorem fresh2 (n c : Nat) (h : c ∈ [n + 1, n]) : n ≤ c := by
  simp only [List.mem_cons, List.not_mem_nil, or_false] at h
  omega
theorem wr4 (n c : Nat) (h : c ∈ [n + 4, n + 3, n, n + 1]) : c ∈ [n + 4, n + 2, n + 3, n, n + 1] := by
  simp only [List.mem_cons, List.not_mem_nil, or_false] at h ⊢
  omega
theorem zsep (n a b : Addr) (ha : a < n) (hb : b < n) : ZipSep2 (n + 4) (n + 2) (n + 3) n (n + 1) [n, a] [n + 1, b] where
  TIz := adij n 2 4 (by decide)
  TOz := adij n 3 4 (by decide)
  TITO := adij n 2 3 (by decide)
  TIi1 := adi n 2 (by decide)
  mem1 := List.mem_cons_self
  zf1 := not2 (adi n 4 (by decide)) (adlt n a 4 ha)
  Tf1 := not2 (adi n 3 (by decide)) (adlt n a 3 ha)
  TIi2 := adij n 2 1 (by decide)
  mem2 := List.mem_cons_self
  zf2 := not2 (adij n 4 1 (by decide)) (adlt n b 4 hb)
  Tf2 := not2 (adij n 3 1 (by decide)) (adlt n b 3 hb)
  sep1_2 := not2 (fun e => adi n 1 (by decide) e.symm) (adlt0 n b hb)
  sep2_1 := not2 (adi n 1 (by decide)) (adlt n a 1 ha)
theorem get_size {l : List V} {us : List Value} (r : Vals l us) {i : Nat} : l[i]? = none ↔ us.length ≤ i := by
  rw [List.getElem?_eq_none_iff, r.length]
theorem turn_zipB {P : Program} {w : World} {K : PySem.W.Frag} {elts : List Expr} {kk : Nat} {tpos : Pos} (k j : Bool) (n a b : Addr) (ha : a < n) (hb : b < n) :
    Turn P w K (.Tuple elts kk tpos) (ItzB k j K a b) [n + 4, n + 2, n + 3, n, n + 1] (n + 4)
      (fun i h => IsZip h (n + 4) (n + 2) (n + 3) .none ∧ IsTupOf2 h (n + 2) (.ref n) (.ref (n + 1)) ∧ (∃ x y, IsTupOf2 h (n + 3) x y) ∧ IterB k h n a i ∧ IterB j h (n + 1) b i) := by
  refine turn_of List.mem_cons_self (fun i h st c hc => ?_) (fun i h h' st e => ?_) (fun A i s Q E st q => wpAny_pyIter_zip st.1 q) (fun X pins s σ H i e1 e2 e3 hc I st hg => ?_)
  · obtain ⟨h1, h2, ⟨x, y, h3⟩, h4, h5⟩ := st
    simp only [List.mem_cons, List.not_mem_nil, or_false] at hc
    rcases hc with rfl | rfl | rfl | rfl | rfl
    · exact ⟨_, h1, fun v q => nomatch q⟩
    · exact ⟨_, h2, fun v q => nomatch q⟩
    · exact ⟨_, h3, fun v q => nomatch q⟩
    · exact iterB_obj h4
    · exact iterB_obj h5
  · obtain ⟨h1, h2, ⟨x, y, h3⟩, h4, h5⟩ := st
    exact ⟨e _ (by simp) _ h1, e _ (by simp) _ h2, ⟨x, y, e _ (by simp) _ h3⟩, iterB_at h4 fun o q => e _ (by simp) o q, iterB_at h5 fun o q => e _ (by simp) o q⟩
  · have src : ∃ xs ys, SqB k K H a xs ∧ SqB j K H b ys := by
      rcases hg with ⟨xs, ys, _, _, p, q, _⟩ | ⟨xs, ys, p, q, _⟩
      · exact ⟨xs, ys, p, q⟩
      · exact ⟨xs, ys, p, q⟩
    obtain ⟨xs, ys, sx, sy⟩ := src
    have e1' := e1; have e2' := e2; have e3' := e3
    subst e1 e2 e3
    obtain ⟨us, ru, hu, zu⟩ := inv_seqB I sx
    obtain ⟨vs, rv, hv, zv⟩ := inv_seqB I sy
    have hh : X.A.in1.handled = none := I.ok.hd hc
    have lu := ru.length
    have lv := rv.length
    obtain ⟨h1, h2, h3, h4, h5⟩ := st
    refine ⟨_, _, _, _, _, _, WalksT.zipD2 (zsep n a b ha hb) (drawB hh k n a (fun e => adlt0 n a ha e.symm) us.toArray) (drawB hh j (n + 1) b (fun e => adlt n b 1 hb e.symm) vs.toArray), ⟨h1, h2, h3, ⟨h4, hu⟩, ⟨h5, hv⟩⟩, ?_, ?_, ?_, ?_, ?_⟩
    · exact fun c hcm => wr4 n c hcm
    · rintro h ⟨g1, g2, g3, g4, g5⟩
      exact ⟨g1, g2, g3, g4.1, g5.1⟩
    · rintro ⟨xs', ys', sx', sy', e⟩
      rw [inv_injB I sx' sx, inv_injB I sy' sy] at e
      simp only [List.size_toArray]
      omega
    · rintro ⟨xs', ys', x, y, sx', sy', ex, ey⟩
      rw [inv_injB I sx' sx] at ex
      rw [inv_injB I sy' sy] at ey
      have a1 := (List.getElem?_eq_some_iff.mp ex).1
      have a2 := (List.getElem?_eq_some_iff.mp ey).1
      simp only [List.size_toArray]
      omega
    · rintro ⟨xs', ys', x, y, sx', sy', ex, ey⟩ T us' ⟨x1, x2, p1, p2, rfl⟩ nT
      rw [inv_injB I sx' sx] at ex
      rw [inv_injB I sy' sy] at ey
      have p1' : us[i]? = some x1 := by simpa using p1
      have p2' : vs[i]? = some x2 := by simpa using p2
      obtain ⟨u1, q1, r1⟩ := ru.get ex
      obtain ⟨u2, q2, r2⟩ := rv.get ey
      rw [p1'] at q1
      rw [p2'] at q2
      refine ⟨[x, y], .cons (by rw [Option.some.inj q1]; exact r1) (.cons (by rw [Option.some.inj q2]; exact r2) .nil), (by show 2 ≤ sizeLine; decide), T, x, y, rfl, nT, rfl, fun l hl => ?_, fun l hl => ?_⟩
      · rw [inv_injB I hl sx]; exact ex
      · rw [inv_injB I hl sy]; exact ey
theorem pi_zipB (k j : Bool) {X : Cx} {e e2 : Expr} {ta : TA} {p pos tpos : Pos} {elts : List Expr} {kk : Nat} (hg : Gl X "zip") (hm : X.mg "zip" = none) (ha : PA X [e, e2] ta)
    (hs : starEach [e, e2] X.env = (false, eval e X.env) :: starEach [e2] X.env := by rfl) (hp : (backTo pos (starEach [e2] X.env)).any (·.1) = false := by rfl) :
    PI X (.Tuple elts kk tpos) (.Call (.Name "zip" p) [e, e2] [] pos) (iZipB k j X.K ta) := by
  refine ⟨fun pins s σ H R I h => ?_⟩
  refine Call_ (ld_blt I hg hm PyProof.Rows.boot_zip (PyProof.Rows.callWith_type1 (thn (ha.run pos pins s σ H _ I h) fun us s1 ⟨vs, H1, I1, r1, q1⟩ => ?_) hs hp))
  obtain ⟨a, b, xs, ys, rfl, sx, sy, q⟩ := q1
  obtain ⟨u1, u2, rfl, ra, rb⟩ := Vals.two r1
  cases ra
  cases rb
  obtain ⟨its, _, p1, _⟩ := inv_seqB I1 sx
  obtain ⟨its2, _, p2, _⟩ := inv_seqB I1 sy
  refine zip_begins2 (begB k a its.toArray) (begB j b its2.toArray) p1 p2 fun h' z1 z2 z3 z4 z5 z6 z7 => wpAny_pyIter_zip z1 ?_
  refine ⟨s1.heap.objs.size + 4, [s1.heap.objs.size + 4, s1.heap.objs.size + 2, s1.heap.objs.size + 3, s1.heap.objs.size, s1.heap.objs.size + 1], _, _, H1, rfl, I1.kept (t' := s1.toks) z7, turn_zipB k j _ a b (hasB_lt p1) (hasB_lt p2), ⟨z1, z2, ⟨_, _, z3⟩, iterB_0 z4, iterB_0 z5⟩, fun c hcm => ?_, q⟩
  have le := fresh5 _ c hcm
  exact I1.fpOk le (I1.hok.fresh le)
/-! enumerate -/
theorem new_enum {v : Value} {o : Obj} {G : Heap → Prop} (B : Begins v o G) :
    Meets (Builtin.«enumerate.__new__» ⟨[.type "enumerate", v], []⟩) (fun _ R s => G s.heap ∧
      R (.ok (.ret (.ref (s.heap.push o).objs.size)))
        { s with heap := (s.heap.push o).push { cls := .type "enumerate", data := .fields #[.none, .bool false, .ref s.heap.objs.size, rawInt 0, .none, .none] } }) :=
  .of_wp fun prog w A R s h => by
    obtain ⟨hp, g, d, tk, os⟩ := s
    obtain ⟨hG, h⟩ := h
    have sub0 := sub_enumerate
    have itr : ∀ {A2 : Around} {E : Value → Shared → Prop} {Q : Value → Shared → Prop}, Q (.ref hp.objs.size) ⟨hp.push o, g, d, tk, os⟩ → wpAny (model prog w) A2 (pyIter v) Q E ⟨hp, g, d, tk, os⟩ :=
      fun y => B.iter prog w _ _ ⟨hp, g, d, tk, os⟩ _ hG y
    wp_walk using itr
    refine wpAny_stack_any fun _ => wpAny_pure ?_
    split
    · rename_i c _ _ _ _ _
      cases (c == Value.type "enumerate") <;> (wp_walk using itr; exact ⟨_, rfl, h⟩)
    · wp_walk using itr
      exact ⟨_, rfl, h⟩
section
variable {prog : Program} {w : World} {A : Around} {E : Value → Shared → Prop} {s : Shared}
theorem enum1_begins {v : Value} {o : Obj} {G : Heap → Prop} {Q : Value → Shared → Prop} (B : Begins v o G) (hG : G s.heap)
    (h : ∀ h', IsEnum h' (s.heap.objs.size + 1) s.heap.objs.size 0 .none → h'.get? s.heap.objs.size = some o →
      (∀ b x, s.heap.get? b = some x → h'.get? b = some x) → Q (.ref (s.heap.objs.size + 1)) { s with heap := h' }) :
    wpAny (model prog w) A (call (.type "enumerate") [v]) Q E s := by
  refine callType_new F.called_enumerate (by decide) (F.typeCall_enumerate_1 _) (F.newCall_enumerate_1 _) (fun obj => F.args_object_init_2 obj _)
    F.entry_enumerate_new (new_enum B) ⟨hG, ?_⟩
  have z1 : (s.heap.push o).objs.size = s.heap.objs.size + 1 := Heap.size_push ..
  show _ ∧ _
  rw [z1]
  have en := Heap.get?_push_size (s.heap.push o) (o := { cls := .type "enumerate", data := .fields #[.none, .bool false, .ref s.heap.objs.size, rawInt 0, .none, .none] }) rfl
  rw [z1] at en
  refine ⟨⟨_, en, rfl⟩, ?_⟩
  exact h _ en (Heap.get?_push_of_some _ (Heap.get?_push_size _ B.free)) fun b x q => Heap.get?_push_of_some _ (Heap.get?_push_of_some _ q)
end
theorem turn_enumB {P : Program} {w : World} {K : PySem.W.Frag} {elts : List Expr} {kk : Nat} {tpos : Pos} (k : Bool) (n a : Addr) (ha : a < n) :
    Turn P w K (.Tuple elts kk tpos) (IteB k K a) [n + 1, n] (n + 1) (fun i h => (∃ old, IsEnum h (n + 1) n (0 + (i : Int)) old) ∧ IterB k h n a i) := by
  refine turn_of List.mem_cons_self (fun i h st c hc => ?_) (fun i h h' st e => ?_) (fun A i s Q E st q => ?_) (fun X pins s σ H i e1 e2 e3 hc I st hg => ?_)
  · obtain ⟨⟨x, h1⟩, h2⟩ := st
    simp only [List.mem_cons, List.not_mem_nil, or_false] at hc
    rcases hc with rfl | rfl
    · exact ⟨_, h1, fun v q => nomatch q⟩
    · exact iterB_obj h2
  · obtain ⟨⟨x, h1⟩, h2⟩ := st
    exact ⟨⟨x, e _ (by simp) _ h1⟩, iterB_at h2 fun o q => e _ (by simp) o q⟩
  · obtain ⟨⟨x, h1⟩, h2⟩ := st
    exact wpAny_pyIter_enum h1 q
  · have src : ∃ xs, SqB k K H a xs := by
      rcases hg with ⟨xs, _, p, _⟩ | ⟨xs, p, _⟩
      · exact ⟨xs, p⟩
      · exact ⟨xs, p⟩
    obtain ⟨xs, sx⟩ := src
    subst e1 e2 e3
    obtain ⟨us, ru, hu, zu⟩ := inv_seqB I sx
    have hh : X.A.in1.handled = none := I.ok.hd hc
    have lu := ru.length
    obtain ⟨h1, h2⟩ := st
    refine ⟨_, _, _, _, _, _, WalksT.enumFrom 0 (drawB hh k n a (fun e => adlt0 n a ha e.symm) us.toArray) (n + 1) (adi n 1 (by decide)) (not2 (adi n 1 (by decide)) (adlt n a 1 ha)) List.mem_cons_self, ⟨h1, h2, hu⟩, ?_, ?_, ?_, ?_, ?_⟩
    · intro c hcm
      exact hcm
    · rintro h ⟨g1, g2, g3⟩
      exact ⟨g1, g2⟩
    · rintro ⟨xs', sx', e⟩
      rw [inv_injB I sx' sx] at e
      simp only [List.size_toArray]
      omega
    · rintro ⟨xs', x, sx', ex⟩
      rw [inv_injB I sx' sx] at ex
      have a1 := (List.getElem?_eq_some_iff.mp ex).1
      simp only [List.size_toArray]
      omega
    · rintro ⟨xs', x, sx', ex⟩ T us' ⟨t, x1, p1, rfl⟩ nT
      rw [inv_injB I sx' sx] at ex
      have p1' : us[i]? = some x1 := by simpa using p1
      obtain ⟨u1, q1, r1⟩ := ru.get ex
      rw [p1'] at q1
      refine ⟨[.int (i : Nat), x], .cons ⟨t, by rw [Int.zero_add]⟩ (.cons (by rw [Option.some.inj q1]; exact r1) .nil), (by show 2 ≤ sizeLine; decide), T, x, rfl, nT, rfl, fun l hl => ?_⟩
      rw [inv_injB I hl sx]; exact ex
theorem pi_enumB (k : Bool) {X : Cx} {e : Expr} {ta : TA} {p pos tpos : Pos} {elts : List Expr} {kk : Nat} (hg : Gl X "enumerate") (hm : X.mg "enumerate" = none) (ha : PA X [e] ta)
    (hs : starEach [e] X.env = (false, eval e X.env) :: starEach [] X.env := by rfl) (hp : (backTo pos (starEach [] X.env)).any (·.1) = false := by rfl) :
    PI X (.Tuple elts kk tpos) (.Call (.Name "enumerate" p) [e] [] pos) (iEnumB k X.K ta) := by
  refine ⟨fun pins s σ H R I h => ?_⟩
  refine Call_ (ld_blt I hg hm PyProof.Rows.boot_enumerate (PyProof.Rows.callWith_type1 (thn (ha.run pos pins s σ H _ I h) fun us s1 ⟨vs, H1, I1, r1, q1⟩ => ?_) hs hp))
  obtain ⟨a, xs, rfl, sx, q⟩ := q1
  obtain ⟨u1, rfl, ra⟩ := Vals.one r1
  cases ra
  obtain ⟨its, _, p1, _⟩ := inv_seqB I1 sx
  refine enum1_begins (begB k a its.toArray) p1 fun h' z1 z4 z7 => wpAny_pyIter_enum z1 ?_
  refine ⟨s1.heap.objs.size + 1, [s1.heap.objs.size + 1, s1.heap.objs.size], _, _, H1, rfl, I1.kept (t' := s1.toks) z7, turn_enumB k _ a (hasB_lt p1), ⟨⟨_, z1⟩, iterB_0 z4⟩, fun c hcm => ?_, q⟩
  have le := fresh2 _ c hcm
  exact I1.fpOk le (I1.hok.fresh le)
section
variable {K : PySem.W.Frag} {a b : Addr} {xs ys : List V} {k j : Bool}
theorem walk_zipB {n : Nat} (hn : n = min xs.length ys.length) : Walk (ItzB k j K a b) n (fun H => SqB k K H a xs ∧ SqB j K H b ys) (YPair (fun i => xs[i]?) (fun i => ys[i]?)) where
  goes := fun i H hi g => ⟨xs, ys, xs[i]'(by omega), ys[i]'(by omega), g.1, g.2, List.getElem?_eq_getElem _, List.getElem?_eq_getElem _⟩
  stops := fun H g => ⟨xs, ys, g.1, g.2, hn⟩
  yields := fun i H v H' _ g ⟨T, x, y, e1, e2, e3, e4, e5⟩ => ⟨T, x, y, e1, e2, e3, e4 _ g.1, e5 _ g.2⟩
theorem walk_enumB : Walk (IteB k K a) xs.length (fun H => SqB k K H a xs) (YPair (fun i => some (.int (i : Nat))) (fun i => xs[i]?)) where
  goes := fun i H hi g => ⟨xs, xs[i]'(by omega), g, List.getElem?_eq_getElem _⟩
  stops := fun H g => ⟨xs, g, rfl⟩
  yields := fun i H v H' _ g ⟨T, x, e1, e2, e3, e4⟩ => ⟨T, _, x, e1, e2, e3, rfl, e4 _ g⟩
end
end K28
end
section
set_option Elab.async false
set_option linter.all false
set_option maxRecDepth 100000
set_option maxHeartbeats 4000000
/-! a tuple times an int from 0 on -/
namespace K28
open PySem PySem.Spec PyProof.Rows L2
open AutoSeq1 (wpAny_loadPart')
section
variable (l : Addr) (its : Array Value) (n : Nat) (dd : Option Addr) (sl : Array (Option Value)) (x : Int) (u : Tok)
theorem tup_mul1 (h1 : x = 1) : Meets (Builtin.«tuple.__mul__» ⟨[.ref l, .int x u], []⟩) (fun _ R s =>
    s.heap.get? l = some { cls := .type "tuple", dict := dd, data := .seq its n, slots := sl } ∧ R (.ok (.ret (Value.ref l))) s) :=
  .of_wp fun prog w A R s h => by
    obtain ⟨hp, g, d, tk, os⟩ := s
    obtain ⟨hl, h⟩ := h
    subst h1
    have f1 := AutoSeq1.idx_int
    wp_walk using wpAny_loadPart' hl
    repeat (first
      | (refine wpAny_ite_false (decide_eq_false (by decide)) ?_; wp_walk using wpAny_loadPart' hl)
      | (refine wpAny_ite_true (decide_eq_true (by simp)) ?_; wp_walk using wpAny_loadPart' hl))
    exact ⟨_, rfl, h⟩
theorem tup_mul0 (h1 : x = 0) (hne : its.isEmpty = false) : Meets (Builtin.«tuple.__mul__» ⟨[.ref l, .int x u], []⟩) (fun _ R s =>
    s.heap.get? l = some { cls := .type "tuple", dict := dd, data := .seq its n, slots := sl } ∧
      R (.ok (.ret (Value.ref s.heap.objs.size))) { s with heap := s.heap.push { cls := Value.type "tuple", data := Data.seq #[] }, toks := s.toks }) :=
  .of_wp fun prog w A R s h => by
    obtain ⟨hp, g, d, tk, os⟩ := s
    obtain ⟨hl, h⟩ := h
    subst h1
    have f1 := AutoSeq1.idx_int
    wp_walk using wpAny_loadPart' hl
    repeat (first
      | (refine wpAny_ite_false (decide_eq_false (by decide)) ?_; wp_walk using wpAny_loadPart' hl)
      | (refine wpAny_ite_false (decide_eq_false (by rw [hne]; decide)) ?_; wp_walk using wpAny_loadPart' hl)
      | (refine wpAny_ite_true (decide_eq_true (by simp)) ?_; wp_walk using wpAny_loadPart' hl))
    exact ⟨_, rfl, h⟩
end
def rRepA (K : PySem.W.Frag) : R2 := fun x y H Q => ∃ l k xs, x = .ref l ∧ y = .int k ∧ SqT K H l xs ∧ xs ≠ [] ∧ 0 ≤ k ∧ k ≤ 1000 ∧ xs.length ≤ 1000 ∧
  (k = 1 → Q (.ref l) H) ∧ (k ≠ 1 → ∀ p, H p = none → Q (.ref p) (upd H p (.tup (List.replicate k.toNat xs).flatten)))
section
variable {X : Cx}
theorem op_repA : OpR X (binaryOp .Mult) (rRepA X.K) := by
  intro pins s σ H x y v u Q I rx ry h
  obtain ⟨l, k, xs, rfl, rfl, hT, hne, h1, h2, hz, q1, q2⟩ := h
  by_cases e2 : 2 ≤ k
  · exact op_repT pins s σ H _ _ v u Q I rx ry ⟨l, k, xs, rfl, rfl, hT, hne, e2, h2, hz, q2 (by omega)⟩
  cases rx
  obtain ⟨t, rfl⟩ := ry
  obtain ⟨its, r, ⟨⟨cls, dd, data, sl⟩, ho, hc, n, hd⟩, hs⟩ := I.tuple hT
  simp only at hc hd
  subst hc hd
  have hi : its.toArray.isEmpty = false := by
    cases its with
    | nil => cases r; exact absurd rfl hne
    | cons a b => rfl
  by_cases e1 : k = 1
  · refine wpAny_binaryOp_repeat_ref (T := "tuple") (U := "int") (by decide) ⟨_, ho, rfl⟩ (fun s' => typeIs_int s' k t) noFill_tuple_mul
      F.fills_int_mul F.slot_int_rmul repeat_tuple F.slot_int_index.lookup
      (call_meets F.slot_int_rmul (typeIs_int s k t) F.entry_int_rmul (F.args_int_rmul_2 _ _) (int_rmul_tuple k t l its.toArray n dd sl)
        ⟨ho, rfl, ⟨_, ho, rfl⟩, call_meets F.slot_tuple_mul ⟨_, ho, rfl⟩ F.entry_tuple_mul (F.args_tuple_mul_2 _ _) (tup_mul1 l its.toArray n dd sl k t e1) ⟨ho, ?_⟩⟩)
    exact ⟨.ref l, H, I, rfl, q1 e1⟩
  · have e0 : k = 0 := by omega
    refine wpAny_binaryOp_repeat_ref (T := "tuple") (U := "int") (by decide) ⟨_, ho, rfl⟩ (fun s' => typeIs_int s' k t) noFill_tuple_mul
      F.fills_int_mul F.slot_int_rmul repeat_tuple F.slot_int_index.lookup
      (call_meets F.slot_int_rmul (typeIs_int s k t) F.entry_int_rmul (F.args_int_rmul_2 _ _) (int_rmul_tuple k t l its.toArray n dd sl)
        ⟨ho, rfl, ⟨_, ho, rfl⟩, call_meets F.slot_tuple_mul ⟨_, ho, rfl⟩ F.entry_tuple_mul (F.args_tuple_mul_2 _ _) (tup_mul0 l its.toArray n dd sl k t e0 hi) ⟨ho, ?_⟩⟩)
    have q := q2 e1 _ (I.hok.fresh (Nat.le_refl _))
    rw [e0] at q
    refine ⟨.ref s.heap.objs.size, _, I.laid (t' := s.toks) (o := .tup []) (fun b ob q => Heap.get?_push_of_some _ q) (Nat.le_refl _) ?_, rfl, q⟩
    exact ⟨Nat.zero_le _, [], .nil, IsTup.new _ _⟩
end
end K28
end
section
set_option Elab.async false
set_option linter.all false
set_option maxRecDepth 100000
set_option maxHeartbeats 4000000
/-! max, min, sum of a tuple of ints -/
namespace K28
open PySem PySem.Spec PyProof.Rows L2
theorem ints_at {its : List Value} {ns : List Int} (r : Vals (ns.map V.int) its) {i : Nat} {v : Value} (h : its.toArray[i]? = some v) : ∃ t, v = .int (ns.getD i 0) t := by
  have h' : its[i]? = some v := by simpa using h
  have hi : i < its.length := (List.getElem?_eq_some_iff.mp h').1
  have hl := r.length
  rw [List.length_map] at hl
  have hx : (ns.map V.int)[i]? = some (.int (ns[i]'(by omega))) := by rw [List.getElem?_map, List.getElem?_eq_getElem (by omega)]; rfl
  obtain ⟨u, q, t, e⟩ := r.get hx
  rw [h'] at q
  refine ⟨t, ?_⟩
  rw [Option.some.inj q, e, List.getD_eq_getElem?_getD, List.getElem?_eq_getElem (by omega)]
  rfl
section
variable {prog : Program} {w : World} {A : Around} {E : Value → Shared → Prop} {s : Shared} {l : Addr} {its : Array Value}
theorem iter_tup {Q : Value → Shared → Prop} (hl : s.heap.IsTuple l its)
    (h : ∀ g : Heap, (∀ b o, s.heap.get? b = some o → g.get? b = some o) → g.IsTupleIter s.heap.objs.size l 0 ∧ g.IsTuple l its → (∀ b ∈ [s.heap.objs.size, l], b < g.objs.size) → l ≠ s.heap.objs.size →
      Q (.ref s.heap.objs.size) { s with heap := g }) : wpAny (model prog w) A (pyIter (.ref l)) Q E s := by
  have lt : l < s.heap.objs.size := by obtain ⟨_, e, _⟩ := hl; exact Heap.lt_size e
  obtain ⟨o, e, r⟩ := id hl
  refine wpAny_pyIter_tuple hl (h _ (fun b x q => Heap.get?_push_of_some _ q) ⟨⟨_, Heap.get?_push_size _ rfl, rfl, rfl⟩, ⟨o, Heap.get?_push_of_some _ e, r⟩⟩ (fun b hb => ?_) (Nat.ne_of_lt lt))
  rw [Heap.size_push]
  rcases List.mem_cons.mp hb with q | hb
  · rw [q]; exact Nat.lt_succ_self _
  · rw [List.mem_singleton.mp hb]; exact Nat.lt_succ_of_lt lt
theorem old_tup {g h' : Heap} {n : Addr} (hn : n = s.heap.objs.size) (hg : ∀ b o, s.heap.get? b = some o → g.get? b = some o) (hk : ∀ b o, b ∉ [n] → g.get? b = some o → h'.get? b = some o) :
    ∀ b o, s.heap.get? b = some o → h'.get? b = some o := fun b o e => hk b o (fun m => by
  have q := Heap.lt_size e
  rw [List.mem_singleton.mp m, hn] at q
  exact Nat.lt_irrefl _ q) (hg b o e)
end
section
variable {X : Cx}
/-- of a list or a tuple -/
def rMaxT (K : PySem.W.Frag) : List V → Hp → VK → Prop := fun vs H Q => ∃ (a : Addr) (ns : List Int), vs = [V.ref a] ∧ SqT K H a (ns.map V.int) ∧ 0 < ns.length ∧ ∀ m, m ∈ ns → (∀ y, y ∈ ns → y ≤ m) → Q (.int m) H
def rMinT (K : PySem.W.Frag) : List V → Hp → VK → Prop := fun vs H Q => ∃ (a : Addr) (ns : List Int), vs = [V.ref a] ∧ SqT K H a (ns.map V.int) ∧ 0 < ns.length ∧ ∀ m, m ∈ ns → (∀ y, y ∈ ns → m ≤ y) → Q (.int m) H
def rSumT (K : PySem.W.Frag) : List V → Hp → VK → Prop := fun vs H Q => ∃ (a : Addr) (ns : List Int), vs = [V.ref a] ∧ SqT K H a (ns.map V.int) ∧ Q (.int ns.sum) H
theorem cr_maxT (hc : X.calm = true) : CallR X (.builtin "max") (rMaxT X.K) := by
  intro pins s σ H vs us Q I r h
  obtain ⟨a, ns, rfl, hs, hne, q⟩ := h
  obtain ⟨its, rv, hl, _⟩ := I.tuple hs
  have le := rv.length
  rw [List.length_map] at le
  rw [Vals.ref1 r]
  refine call_max_walk (iter_tup hl fun g hg st hfp hne2 => ?_)
  refine ⟨_, _, _, _, _, _, _, rfl, Walks.tuple (A := X.A.in1) (I.ok.hd hc) _ a hne2 its.toArray, st, hfp, by simp; omega, CmpOf.ints_gt (fun i => ns.getD i 0) (fun _ _ e => ints_at rv e), fun v h' tk hP hk => ?_⟩
  obtain ⟨t, rfl⟩ := ints_at rv hP
  have sz : its.toArray.size - 1 = ns.length - 1 := by simp [le]
  rw [sz] at hP ⊢
  obtain ⟨h1, h2⟩ := argBest_gt (fun i => ns.getD i 0) (ns.length - 1)
  refine ⟨.int _, H, I.kept (t' := tk) (old_tup rfl hg hk), ⟨_, rfl⟩, q _ ?_ fun y hy => ?_⟩
  · exact PySem.getD_mem (by omega)
  · obtain ⟨j, hj, rfl⟩ := PySem.mem_getD hy
    exact h2 j (by omega)
theorem cr_minT (hc : X.calm = true) : CallR X (.builtin "min") (rMinT X.K) := by
  intro pins s σ H vs us Q I r h
  obtain ⟨a, ns, rfl, hs, hne, q⟩ := h
  obtain ⟨its, rv, hl, _⟩ := I.tuple hs
  have le := rv.length
  rw [List.length_map] at le
  rw [Vals.ref1 r]
  refine call_min_walk (iter_tup hl fun g hg st hfp hne2 => ?_)
  refine ⟨_, _, _, _, _, _, _, rfl, Walks.tuple (A := X.A.in1) (I.ok.hd hc) _ a hne2 its.toArray, st, hfp, by simp; omega, CmpOf.ints_lt (fun i => ns.getD i 0) (fun _ _ e => ints_at rv e), fun v h' tk hP hk => ?_⟩
  obtain ⟨t, rfl⟩ := ints_at rv hP
  have sz : its.toArray.size - 1 = ns.length - 1 := by simp [le]
  rw [sz] at hP ⊢
  obtain ⟨h1, h2⟩ := argBest_lt (fun i => ns.getD i 0) (ns.length - 1)
  refine ⟨.int _, H, I.kept (t' := tk) (old_tup rfl hg hk), ⟨_, rfl⟩, q _ ?_ fun y hy => ?_⟩
  · exact PySem.getD_mem (by omega)
  · obtain ⟨j, hj, rfl⟩ := PySem.mem_getD hy
    exact h2 j (by omega)
theorem cr_sumT (hc : X.calm = true) : CallR X (.builtin "sum") (rSumT X.K) := by
  intro pins s σ H vs us Q I r h
  obtain ⟨a, ns, rfl, hs, q⟩ := h
  obtain ⟨its, rv, hl, _⟩ := I.tuple hs
  have le := rv.length
  rw [List.length_map] at le
  rw [Vals.ref1 r]
  refine call_sum_walkG (iter_tup hl fun g hg st hfp hne2 => ?_)
  refine ⟨_, _, _, _, _, _, fun i => ns.getD i 0, rfl, Walks.tuple (A := X.A.in1) (I.ok.hd hc) _ a hne2 its.toArray, st, hfp, fun _ _ e => ints_at rv e, fun h' tk t' hk => ?_⟩
  refine ⟨.int _, H, I.kept (t' := tk) (old_tup rfl hg hk), ⟨_, rfl⟩, ?_⟩
  have e : PySem.preSum (fun i => ns.getD i 0) its.toArray.size = ns.sum := by
    have sz : its.toArray.size = ns.length := by simp [le]
    rw [sz]
    clear le rv hs hl sz q
    have go : ∀ k, k ≤ ns.length → PySem.preSum (fun i => ns.getD i 0) k = (ns.take k).sum := by
      intro k
      induction k with
      | zero => intro _; rfl
      | succ k ih =>
        intro hk
        show PySem.preSum (fun i => ns.getD i 0) k + ns.getD k 0 = _
        rw [ih (by omega), List.take_add_one, List.getElem?_eq_getElem (by omega), List.sum_append, List.getD_eq_getElem?_getD, List.getElem?_eq_getElem (by omega)]
        simp
    rw [go _ (Nat.le_refl _), List.take_length]
  rw [e]
  exact q
end
end K28
end
section
set_option Elab.async false
set_option linter.all false
set_option maxRecDepth 100000
set_option maxHeartbeats 2000000
/-! dict of a tuple of pairs, of a dict; a tuple that keeps its record; < of data -/
namespace K28
open PySem PySem.Spec PyProof.Rows L2
section
variable {X : Cx}
/-- tuple(xs) of a list: the record is kept -/
def rTupF (K : PySem.W.Frag) : List V → Hp → VK → Prop := fun xs H Q => ∃ p ys, xs = [.ref p] ∧ SqL K H p ys ∧ ∀ l o, H l = none → o.dict = none → Q (.ref l) (upd H l (.frz o (.tup ys)))
theorem call_tupF : CallR X (.type "tuple") (rTupF X.K) := by
  intro pins s σ H xs us Q I r h
  obtain ⟨p, ys, rfl, hq, q⟩ := h
  obtain ⟨u, rfl, rx⟩ := vals1 r
  cases rx
  obtain ⟨its, r', pl, hz⟩ := I.list hq
  have hlen := r'.length
  refine call_tuple_list pl.isList (fun h' kp => ?_) (by simp only [List.size_toArray] <;> omega)
  have I1 : Inv X pins σ H { s with heap := h' } := I.kept (t' := s.toks) kp
  refine ⟨.ref h'.objs.size, _, I1.laid (t' := s.toks) (o := .frz { cls := .type "tuple", data := .seq its.toArray } (.tup ys)) (fun b o e => Heap.get?_push_of_some _ e) (Nat.le_refl _) ?_, rfl, q _ _ (I1.hok.fresh (Nat.le_refl _)) rfl⟩
  exact ⟨Heap.get?_push_size _ rfl, show ObjOk X.prog X.w _ _ _ (.tup ys) from ⟨hz, its, r', IsTup.new _ _⟩⟩
/-- dict(xs) of a tuple of pairs -/
def rDictT (K : PySem.W.Frag) : List V → Hp → VK → Prop := fun xs H Q => ∃ (a : Addr) (o : Obj) (ps : List Addr) (kvs : List (Key × V)), xs = [.ref a] ∧ H a = some (.frz o (.tup (ps.map V.ref))) ∧ o.dict = none ∧ Paired (fun p kv => SqT K H p [kV kv.1, kv.2]) ps kvs ∧
    ∀ p, H p = none → Q (.ref p) (upd H p (.dK (mergeK [] kvs)))
theorem call_dictT (hcalm : X.calm = true) : CallR X (.type "dict") (rDictT X.K) := by
  intro pins s σ H xs us Q I r q
  obtain ⟨a, o, ps, kvs, ex, hq, hdn, hp, q⟩ := q
  subst ex
  obtain ⟨u, eu, rx⟩ := vals1 r
  subst eu
  cases rx
  obtain ⟨ho, hok⟩ := I.hok a _ hq
  obtain ⟨hz, its, rv, o2, ho2, hc, n, hdat⟩ := hok
  have eo : o = o2 := Option.some.inj (ho.symm.trans ho2)
  subst eo
  have ei := refs_at rv
  subst ei
  rw [List.length_map] at hz
  obtain ⟨prs, rel, hl, hpr⟩ := pairs_of I hp
  have cho : ∀ j, j < prs.length → ∃ u : Value, ∃ q, prs[j]? = some q ∧ IsTup s.heap (ps.getD j 0) #[u, q.2] ∧ keyIs q.1 u = true := fun j hj => by
    obtain ⟨b, u, e1, e2, e3⟩ := hpr j _ (List.getElem?_eq_getElem hj)
    refine ⟨u, _, List.getElem?_eq_getElem hj, ?_, e3⟩
    rw [List.getD_eq_getElem?_getD, e1]; exact e2
  obtain ⟨f, hf⟩ : ∃ f : Nat → Value, ∀ j, j < prs.length → ∃ q, prs[j]? = some q ∧ IsTup s.heap (ps.getD j 0) #[f j, q.2] ∧ keyIs q.1 (f j) = true := by
    refine Classical.axiomOfChoice (r := fun j u => j < prs.length → ∃ q, prs[j]? = some q ∧ IsTup s.heap (ps.getD j 0) #[u, q.2] ∧ keyIs q.1 u = true) fun j => ?_
    by_cases hj : j < prs.length
    · obtain ⟨u, h⟩ := cho j hj
      exact ⟨u, fun _ => h⟩
    · exact ⟨.none, fun h => absurd h hj⟩
  have key := PySem.call_dict_pairs (prog := X.prog) (w := X.w) (A := X.A) (E := X.xe) (s := s) (knd := mixKind X.prog X.w) (kvs := prs) (PySem.PairArg.tuple a (ps.map Value.ref).toArray (fun j => ps.getD j 0) ((List.range prs.length).map fun j => (f j, (prs.getD j (.inl 0, .none)).2)))
    (I.ok.hd hcalm) ⟨⟨o, n, ho, hc, hdn, hdat⟩, by simp [hl], fun j k v e => ?_⟩ ⟨by simp, fun i k v rel => ?_⟩ (by simp; omega) (Q := EP X pins σ Q) fun h' tk hd' k => ?_
  · exact key
  · simp only [List.getElem?_map] at e
    by_cases hj : j < prs.length
    · rw [List.getElem?_range hj] at e
      have e2 := Option.some.inj e
      obtain ⟨q2, h2, h3, h4⟩ := hf j hj
      have hj2 : j < ps.length := by omega
      refine ⟨by simp [List.getD_eq_getElem?_getD, List.getElem?_eq_getElem hj2], .inl ?_⟩
      have ek : k = f j := (congrArg Prod.fst e2).symm
      have ev : v = q2.2 := by
        have e3 := (congrArg Prod.snd e2).symm
        simp only [List.getD_eq_getElem?_getD, h2, Option.getD_some] at e3
        exact e3
      rw [ek, ev]
      obtain ⟨o', x1, x2, n', x3⟩ := h3
      exact ⟨o', x1, x2, n', x3⟩
    · rw [List.getElem?_eq_none (by simpa using hj)] at e; cases e
  · have e : ((List.range prs.length).map fun j => (f j, (prs.getD j (.inl 0, .none)).2))[i]? = some (k, v) := rel
    rw [List.getElem?_map] at e
    by_cases hi : i < prs.length
    · rw [List.getElem?_range hi] at e
      have e2 := Option.some.inj e
      obtain ⟨q2, h2, h3, h4⟩ := hf i hi
      have e3 := (congrArg Prod.snd e2).symm
      simp only [List.getD_eq_getElem?_getD, h2, Option.getD_some] at e3
      have e4 : k = f i := (congrArg Prod.fst e2).symm
      exact ⟨q2.1, by rw [h2, show v = q2.2 from e3], by rw [e4]; exact h4⟩
    · rw [List.getElem?_eq_none (by simpa using hi)] at e; cases e
  · have hm : (s.heap.objs.size == sysModules) = false := beq_eq_false_iff_ne.mpr (Nat.ne_of_gt I.big)
    have hlen : (mergeK [] kvs).length ≤ sizeLine := by
      refine Nat.le_trans (length_mergeK kvs []) ?_
      rw [List.length_nil, Nat.zero_add, rel.length, hl]
      exact hz
    exact ⟨.ref s.heap.objs.size, upd H s.heap.objs.size (.dK (mergeK [] kvs)), I.laid (t' := tk) (fun b o e => k b o (by simp) e) (Nat.le_refl _) (show ObjOk X.prog X.w _ _ _ (.dK (mergeK [] kvs)) from ⟨hlen, hm, merged [] prs, KV.merge rel .nil, hd'⟩), rfl, q _ (I.hok.fresh (Nat.le_refl _))⟩
/-- dict(d) -/
def rDictD : List V → Hp → VK → Prop := fun xs H Q => ∃ (a : Addr) (kvs : List (Key × V)), xs = [.ref a] ∧ Rd H a (.dK kvs) ∧ ∀ p, H p = none → Q (.ref p) (upd H p (.dK kvs))
theorem call_dictD : CallR X (.type "dict") rDictD := by
  intro pins s σ H xs us Q I r q
  obtain ⟨a, kvs, rfl, e, q⟩ := q
  obtain ⟨u, rfl, rx⟩ := vals1 r
  cases rx
  exact d_copyOf I e fun p s' hp I' => ⟨.ref p, _, I', rfl, q p hp⟩
/-- < of data that are alike -/
def rLtD (K : PySem.W.Frag) : R2 := fun x y H Q => ∃ d e, Dp K H x d ∧ Dp K H y e ∧ PySem.W.alike d e = true ∧ d ≠ .none ∧ PyData.depth d ≤ 60 ∧ Q (.bl (PySem.W.dataLt d e)) H
theorem op_ltD (hu : X.A.units + 64 < cLine) : OpR X (compareOp .Lt) (rLtD X.K) := by
  intro pins s σ H x y v u Q I rx ry h
  obtain ⟨d, e, hd, he, al, nn, dp, q⟩ := h
  obtain ⟨as, r1⟩ := Dp.reads I d x v hd rx
  obtain ⟨bs, r2⟩ := Dp.reads I e y u he ry
  exact PySem.W.lt_data r1 r2 al nn (by have := Nat.min_le_left (PyData.depth d) (PyData.depth e); omega) ⟨.bl _, H, I, rfl, q⟩
end
end K28
end
section
set_option Elab.async false
set_option linter.all false
set_option maxRecDepth 100000
set_option maxHeartbeats 2000000
/-! name = {k: v for ..} on one line, the name a local -/
namespace K28
open PySem PySem.Spec PyProof.Rows L2
section
variable {X : Cx}
theorem ps_setDc {i : Nat} {y : Str} {py : Pos} {kx vx tg iter : Expr} {ifs : List Expr} {scope : Scope} {own : List (Str × Nat)} {pos spos : Pos} {wi : TI} {g : TG} {tt : TT} {tk tv : TE} (hc : X.calm = true) (hN : X.N.Nodup) (hy : X.N[i]? = some y) (hyl : X.env.scope.names.lookup y = some .local)
    (hsw : swapsWith (.DictComp kx vx [⟨tg, iter, ifs, 0⟩] scope pos) (some (.Name y py)) spos.line X.env = pure true) (hi : PI X tg iter wi) (ok : BlkOk X.N X.env.scope scope own)
    (hg : ∀ (s : Shared) (H : Hp) (C : Addr) (cl : List (Str × Addr)) (fp : List Addr), PG (X.blk s H scope (compEnvC scope cl C X.env) fp) tg g)
    (ht : ∀ (s : Shared) (H : Hp) (C : Addr) (cl : List (Str × Addr)) (fp : List Addr), PTs (X.blk s H scope (compEnvC scope cl C X.env) fp) ifs tt)
    (hk : ∀ (s : Shared) (H : Hp) (C : Addr) (cl : List (Str × Addr)) (fp : List Addr), PE (X.blk s H scope (compEnvC scope cl C X.env) fp) kx tk)
    (he : ∀ (s : Shared) (H : Hp) (C : Addr) (cl : List (Str × Addr)) (fp : List Addr), PE (X.blk s H scope (compEnvC scope cl C X.env) fp) vx tv) (hs : ∀ x, foldedSetIterable iter X.env x = pure x := by intro _; rfl) :
    PS X (.Assign [.Name y py] (.DictComp kx vx [⟨tg, iter, ifs, 0⟩] scope pos) spos) (tAsg (tDc wi g tt tk tv (own.map (·.2))) (gName i)) := by
  refine ⟨fun pins s σ H D I h => ?_⟩
  rw [exec_Assign_Name_used _ _ _ _ hsw]
  refine wpAny_bind (wpAny_standAt (wpAny_bind ?_))
  show wpAny _ X.A (do let _ ← comprehension (.DictComp kx vx [⟨tg, iter, ifs, 0⟩] scope pos) scope X.env (firstIterPos [⟨tg, iter, ifs, 0⟩] pos) newDict false (eval iter X.env) (some (assign (.Name y py) X.env))) _ _ s
  have h : tDc wi g tt tk tv (own.map (·.2)) σ H (fun x H1 => gName i x σ H1 D.nx) := h
  refine wpAny_bind (thn (dc_core (Qf := fun _ s' => SP X pins D .next s') hc hN I hi ok hg ht hk he hs h fun L C s' m H' I' q hn f => ?_) fun _ s' hq => wpAny_pure (wpAny_pure hq))
  show wpAny _ _ (assign (.Name y py) X.env (.ref L)) _ _ _
  refine wpAny_assign_Name (store_ok2 (v := V.ref L) I' hN hy (.inl hyl) rfl (fun s2 I2 ⟨a, sb, ha⟩ => ?_) (.inr hyl))
  obtain ⟨f0, f1, f2, f3, f4, f5⟩ := f
  have haC : C ≠ a := by
    rcases ha with z | z
    · rw [z]; exact f1
    · exact fun e => f4 y a z e.symm
  refine ⟨m, hn.sameBut sb haC, fun h3 sb3 => ?_⟩
  exact ⟨_, H', I2.turned (t' := s2.toks) (fun b o hb e => (sb3.2 b hb).trans e) f0 f1 f3 f4 f5, q⟩
theorem sw_trueD {kx vx : Expr} {gs : List Comprehension} {scope : Scope} {pos py : Pos} {y : Str} {l : Nat} {env : Env} (hk : env.scope.kind = .function) (hy : env.scope.names.lookup y = some .local) (hl : (py.line == pos.line) = true)
    (ha : (scope.names.any fun (n, k) => n == y && (k == .local || k == .cell)) = false) : swapsWith (.DictComp kx vx gs scope pos) (some (.Name y py)) l env = pure true := by
  have ky : env.kindOf y = some .local := hy
  have hb : env.blockKind = .function := by unfold Env.blockKind; rw [hk]; rfl
  unfold swapsWith
  simp only [hb, ky, ha, Expr.pos, hl]
  rfl
end
end K28
end
section
set_option Elab.async false
set_option linter.all false
set_option maxRecDepth 100000
set_option maxHeartbeats 2000000
/-! sorted(xs) of data -/
namespace K28
open PySem PySem.Spec PyProof.Rows L2
section
variable {X : Cx}
def rSortF (K : PySem.W.Frag) : List V → Hp → VK → Prop := fun vs H Q => ∃ (a : Addr) (xs : List V) (enc : V → PyData), vs = [.ref a] ∧ SqL K H a xs ∧ (∀ x ∈ xs, Dp K H x (enc x)) ∧ PySem.W.AllAlike (xs.map enc) ∧ PySem.W.Sortable (xs.map enc) ∧ (∀ x ∈ xs, PyData.depth (enc x) ≤ 60) ∧
  ∀ p, H p = none → Q (.ref p) (upd H p (.lst (xs.mergeSort (PySem.W.dataLe false enc))))
theorem each_vals {R : Value → V → Prop} : ∀ {xs : List V} {us : List Value}, Vals xs us → (∀ x u, x ∈ xs → RelV x u → R u x) → PySem.W.EachIs R us xs
  | _, _, .nil, _ => .nil
  | _, _, .cons h t, q => .cons (q _ _ (List.mem_cons_self ..) h) (each_vals t fun x u hx => q x u (List.mem_cons_of_mem _ hx))
theorem vals_each : ∀ {us : List Value} {xs : List V}, PySem.W.EachIs (fun v x => RelV x v) us xs → Vals xs us
  | _, _, .nil => .nil
  | _, _, .cons h t => .cons h (vals_each t)
theorem cr_sortedF (hu : X.A.units + 64 < cLine) : CallR X (.builtin "sorted") (rSortF X.K) := by
  intro pins s σ H vs us Q I r h
  obtain ⟨a, xs, enc, rfl, hs, hx, al, so, dp, q⟩ := h
  obtain ⟨its, rv, hl, hz⟩ := I.list hs
  obtain ⟨u, rfl, ru⟩ := vals1 r
  obtain rfl : u = Value.ref a := ru
  refine PySem.W.sorted_data (R := fun v x => RelV x v) (enc := enc) (bs := xs) hl.isList (each_vals rv fun x u _ z => z) (each_vals rv fun x u hm z => Dp.reads I _ _ _ (hx x hm) z) al so hz (fun b hb => by have := dp b hb; omega) fun out lo eo => ?_
  obtain ⟨e, he⟩ := sortedAll_at s.heap its out.toArray
  refine ⟨.ref (s.heap.objs.size + 1), upd H (s.heap.objs.size + 1) (.lst (xs.mergeSort (PySem.W.dataLe false enc))), I.laid (t' := s.toks) (fun _ _ => sortedAll_old) (Nat.le_succ _) ?_, rfl, q _ (I.hok.fresh (Nat.le_succ _))⟩
  refine ⟨by rw [(List.mergeSort_perm xs _).length_eq]; exact hz, out, e, vals_each eo, ?_⟩
  rw [he]
end
end K28
end
section
set_option Elab.async false
set_option linter.all false
set_option maxRecDepth 100000
set_option maxHeartbeats 2000000
/-! a call with keywords alone -/
namespace K28
open PySem PySem.Spec PyProof.Rows L2
section
variable {X : Cx} {CX : CXT} {k : Nat} {f : Addr} {fd : FuncData} {ps ks : List Str} {sp : Sp} {E : XK} {x : Str} {p pos : Pos} {kws : List Keyword} {tk : TA} {g : List Value → List Value → List Value} {gV : List V → List V → List V}
theorem pe_callKW (F : FnOk X.prog X.w X.K X.mg X.base CX k f fd ps sp) (hr : Room k X.A) (hg : Gl X x) (hm : X.mg x = some (.ref f)) (hk : PySem.W.keepIn X.K (.ref f) = true) (hb : KBn X.K fd ps 0 ks g gV) (hx : Passes CX X E)
    (hkw : PK X kws tk) (hall : (backToKw pos (keywordEach kws X.env)).all (·.1.isSome) = true := by rfl) (hks : (backToKw pos (keywordEach kws X.env)).filterMap (·.1) = ks := by rfl)
    (hdb : (x == ("__debug__" : Str)) = false := by decide) (hpl : ((backTo pos (starEach [] X.env)).any (·.1) || (backToKw pos (keywordEach kws X.env)).any (·.1.isNone)) = false := by rfl) :
    PE X (.Call (.Name x p) [] kws pos) (tCallN 0 ks.length sp gV E tNil tk) := by
  refine ⟨fun pins s σ H Q I h => ?_⟩
  refine wpAny_Call_Name_kw (ld_glob I hg hm ?_ hdb)
  refine PySem.W.callWith_KW0 (h₀ := X.base) I.ok.mod.kin hk hall (thn (hkw.run pos pins s σ H _ I h) fun ws s2 ⟨zs, H2, I2, rz, l1, l2, q2⟩ => ⟨I2.kIn, ?_⟩) hpl
  rw [hks]
  exact run_fnN (us := []) (vs := []) F hr hb hx I2 .nil rz rfl l2 q2
end
section
variable {K : PySem.W.Frag} {mg : Str → Option Value}
/-- two keywords, the other way round -/
theorem kb_two {y q : Str} {params : Arguments} {body : List Stmt} {scope : Scope} {kws : List (Str × V)} {f : Addr} {fd : FuncData} {p1 p2 k1 k2 : Str} (F : FunD K y q params body scope [] kws f fd)
    (h : ∀ (kV doc pm : Value) (an : Option Addr) (cdv ct a b : Value), bindArgs (PySem.W.fnOf y q params body scope .none kV doc pm an cdv ct) ⟨[], [(k1, a), (k2, b)]⟩ = pure [(p1, b), (p2, a)]) :
    KBn K fd [p1, p2] 0 [k1, k2] (fun _ ws => [ws.getD 1 .none, ws.getD 0 .none]) (fun _ zs => [zs.getD 1 .non, zs.getD 0 .non]) := by
  obtain ⟨oc, od, dV, kV, doc, pm, an, cdv, ct, osl, rfl, lk, hcd, hD, hK⟩ := F.ex
  rcases hD with ⟨_, rfl⟩ | ⟨e, _⟩
  · refine ⟨fun s us ws X l1 l2 => ?_, fun r1 r2 => ?_⟩
    · match us, l1, ws, l2 with
      | [], _, [a, b], _ => exact .of_eq (h kV doc pm an cdv ct a b)
    · have n0 : RelV V.non Value.none := rfl
      match r2 with
      | .nil => exact .cons n0 (.cons n0 .nil)
      | .cons a .nil => exact .cons n0 (.cons a .nil)
      | .cons a (.cons b _) => exact .cons b (.cons a .nil)
  · exact absurd rfl e
theorem kb_judge_never_more (T : Tx K mg) : KBn K (fdA K 565) ["one", "other"] 0 ["other", "one"] (fun _ ws => [ws.getD 1 .none, ws.getD 0 .none]) (fun _ zs => [zs.getD 1 .non, zs.getD 0 .non]) :=
  kb_two (f_judge_never_more T) fun kV doc pm an cdv ct a b => by kernel_rfl
end
end K28
end
section
set_option Elab.async false
set_option linter.all false
set_option maxRecDepth 100000
set_option maxHeartbeats 2000000
/-! data that never change: numbers, texts, tuples of these -/
namespace K28
open PySem L2
inductive Dt where
  | n | b (x : Bool) | i (x : Int) | s (x : Str) | t (l : List Dt)
mutual
def Den (K : PySem.W.Frag) (H : Hp) : Dt → V → Prop
  | .n, v => v = .non
  | .b x, v => v = .bl x
  | .i x, v => v = .int x
  | .s x, v => v = .str x
  | .t l, v => ∃ a vs, v = .ref a ∧ SqT K H a vs ∧ DenL K H l vs
def DenL (K : PySem.W.Frag) (H : Hp) : List Dt → List V → Prop
  | [], vs => vs = []
  | d :: l, vs => ∃ v r, vs = v :: r ∧ Den K H d v ∧ DenL K H l r
end
/-- tuples stay -/
def ExT (K : PySem.W.Frag) (H H' : Hp) : Prop := ∀ a xs, SqT K H a xs → SqT K H' a xs
theorem ExT.refl {K : PySem.W.Frag} (H : Hp) : ExT K H H := fun _ _ h => h
theorem ExT.trans {K : PySem.W.Frag} {H H1 H2 : Hp} (a : ExT K H H1) (b : ExT K H1 H2) : ExT K H H2 := fun _ _ h => b _ _ (a _ _ h)
theorem Same.ext {K : PySem.W.Frag} {H H' : Hp} (e : Same H H') : ExT K H H' := fun a xs h => by
  rcases h with (h | ⟨o, h⟩) | h
  · exact .inl (.inl (e _ _ h))
  · exact .inl (.inr ⟨o, e _ _ h⟩)
  · exact .inr h
theorem same_new {H : Hp} {p : Addr} {o : HO} (h : H p = none) : Same H (upd H p o) := fun b x e => by
  rw [upd_ne (ne_of_none e h)]; exact e
def isTupO : HO → Bool
  | .tup _ => true
  | .frz _ _ => true
  | _ => false
theorem ext_upd {K : PySem.W.Frag} {H : Hp} {p : Addr} {u o : HO} (h : H p = some u) (ht : isTupO u = false) : ExT K H (upd H p o) := fun a xs q => by
  rcases q with (q | ⟨x, q⟩) | q
  · refine .inl (.inl ?_)
    rw [upd_ne (ne_of q h (fun e => by rw [← e] at ht; cases ht))]; exact q
  · refine .inl (.inr ⟨x, ?_⟩)
    rw [upd_ne (ne_of q h (fun e => by rw [← e] at ht; cases ht))]; exact q
  · exact .inr q
mutual
theorem Den.mono {K : PySem.W.Frag} {H H' : Hp} (e : ExT K H H') : ∀ {d : Dt} {v : V}, Den K H d v → Den K H' d v
  | .n, _, h => h
  | .b _, _, h => h
  | .i _, _, h => h
  | .s _, _, h => h
  | .t l, _, ⟨a, vs, h1, h2, h3⟩ => ⟨a, vs, h1, e _ _ h2, DenL.mono e h3⟩
theorem DenL.mono {K : PySem.W.Frag} {H H' : Hp} (e : ExT K H H') : ∀ {l : List Dt} {vs : List V}, DenL K H l vs → DenL K H' l vs
  | [], _, h => h
  | _ :: _, _, ⟨v, r, h1, h2, h3⟩ => ⟨v, r, h1, Den.mono e h2, DenL.mono e h3⟩
end
section
variable {K : PySem.W.Frag} {H H' : Hp}
theorem DenL.length : ∀ {l : List Dt} {vs : List V}, DenL K H l vs → vs.length = l.length
  | [], _, h => by rw [show _ = [] from h]; rfl
  | _ :: _, _, ⟨v, r, h1, _, h3⟩ => by rw [h1, List.length_cons, List.length_cons, DenL.length h3]
theorem DenL.get : ∀ {l : List Dt} {vs : List V} {i : Nat} {d : Dt}, DenL K H l vs → l[i]? = some d → ∃ v, vs[i]? = some v ∧ Den K H d v
  | [], _, _, _, _, h => by simp at h
  | _ :: _, _, 0, _, ⟨v, r, h1, h2, _⟩, h => by
    rw [h1]
    have e := Option.some.inj h
    rw [← e]; exact ⟨v, rfl, h2⟩
  | _ :: _, _, i + 1, _, ⟨v, r, h1, _, h3⟩, h => by
    rw [h1]
    rw [List.getElem?_cons_succ] at h ⊢
    exact DenL.get h3 h
theorem DenL.at : ∀ {l : List Dt} {vs : List V} {i : Nat} {v : V}, DenL K H l vs → vs[i]? = some v → ∃ d, l[i]? = some d ∧ Den K H d v := fun {l vs i v} h e => by
  have hi : i < vs.length := (List.getElem?_eq_some_iff.mp e).1
  rw [h.length] at hi
  obtain ⟨u, q, r⟩ := h.get (List.getElem?_eq_getElem hi)
  rw [e] at q
  exact ⟨_, List.getElem?_eq_getElem hi, by rw [Option.some.inj q]; exact r⟩
theorem DenL.append : ∀ {l l' : List Dt} {vs us : List V}, DenL K H l vs → DenL K H l' us → DenL K H (l ++ l') (vs ++ us)
  | [], _, _, _, h, h' => by rw [show _ = [] from h]; exact h'
  | _ :: _, _, _, _, ⟨v, r, h1, h2, h3⟩, h' => ⟨v, r ++ _, by rw [h1]; rfl, h2, DenL.append h3 h'⟩
theorem DenL.drop : ∀ {l : List Dt} {vs : List V} (k : Nat), DenL K H l vs → DenL K H (l.drop k) (vs.drop k)
  | _, _, 0, h => h
  | [], _, k + 1, h => by rw [show _ = [] from h]; rfl
  | _ :: _, _, k + 1, ⟨v, r, h1, _, h3⟩ => by rw [h1]; exact DenL.drop k h3
theorem DenL.take : ∀ {l : List Dt} {vs : List V} (k : Nat), DenL K H l vs → DenL K H (l.take k) (vs.take k)
  | _, _, 0, h => rfl
  | [], _, k + 1, h => by rw [show _ = [] from h]; rfl
  | _ :: _, _, k + 1, ⟨v, r, h1, h2, h3⟩ => ⟨v, r.take k, by rw [h1]; rfl, h2, DenL.take k h3⟩
theorem denL_one {d : Dt} {v : V} (h : Den K H d v) : DenL K H [d] [v] := ⟨v, [], rfl, h, rfl⟩
theorem denL_snoc {l : List Dt} {vs : List V} {d : Dt} {v : V} (h : DenL K H l vs) (h' : Den K H d v) : DenL K H (l ++ [d]) (vs ++ [v]) := h.append (denL_one h')
theorem denL_ints : ∀ (ns : List Int), DenL K H (ns.map Dt.i) (ns.map V.int)
  | [] => rfl
  | n :: ns => ⟨.int n, ns.map V.int, rfl, rfl, denL_ints ns⟩
theorem DenL.ints : ∀ {ns : List Int} {vs : List V}, DenL K H (ns.map Dt.i) vs → vs = ns.map V.int
  | [], _, h => h
  | n :: ns, _, ⟨v, r, h1, h2, h3⟩ => by rw [h1, DenL.ints h3, show v = V.int n from h2]; rfl
theorem denL_strs : ∀ (ns : List Str), DenL K H (ns.map Dt.s) (ns.map V.str)
  | [] => rfl
  | n :: ns => ⟨.str n, ns.map V.str, rfl, rfl, denL_strs ns⟩
theorem DenL.strs : ∀ {ns : List Str} {vs : List V}, DenL K H (ns.map Dt.s) vs → vs = ns.map V.str
  | [], _, h => h
  | n :: ns, _, ⟨v, r, h1, h2, h3⟩ => by rw [h1, DenL.strs h3, show v = V.str n from h2]; rfl
theorem denL_nil : DenL K H [] [] := rfl
theorem denL_cons {d : Dt} {l : List Dt} {v : V} {vs : List V} (h : Den K H d v) (h' : DenL K H l vs) : DenL K H (d :: l) (v :: vs) := ⟨v, vs, rfl, h, h'⟩
/-- a tuple of ints -/
abbrev wd (w : List Int) : Dt := .t (w.map .i)
theorem den_wd {a : Addr} {w : List Int} (h : SqT K H a (w.map V.int)) : Den K H (wd w) (.ref a) := ⟨a, _, rfl, h, denL_ints w⟩
theorem Den.wd {w : List Int} {v : V} (h : Den K H (wd w) v) : ∃ a, v = .ref a ∧ SqT K H a (w.map V.int) := by
  obtain ⟨a, vs, e, hT, hL⟩ := h
  rw [hL.ints] at hT
  exact ⟨a, e, hT⟩
/-- a new tuple -/
theorem den_new {p : Addr} {l : List Dt} {vs : List V} (hp : H p = none) (h : DenL K H l vs) : Den K (upd H p (.tup vs)) (.t l) (.ref p) :=
  ⟨p, vs, rfl, .inl (.inl upd_same), h.mono (Same.ext (same_new hp))⟩
/-! equal data, for == -/
mutual
def Dt.py : Dt → PyData
  | .n => .none
  | .b x => .bool x
  | .i x => .int x
  | .s x => .str x
  | .t l => .tuple (pyL l)
def pyL : List Dt → List PyData
  | [] => []
  | d :: l => d.py :: pyL l
end
mutual
theorem Den.dp : ∀ {d : Dt} {v : V}, Den K H d v → Dp K H v d.py
  | .n, _, h => by rw [show _ = V.non from h]; exact .non
  | .b _, _, h => by rw [show _ = V.bl _ from h]; exact .bl _
  | .i _, _, h => by rw [show _ = V.int _ from h]; exact .int _
  | .s _, _, h => by rw [show _ = V.str _ from h]; exact .str _
  | .t l, _, ⟨a, vs, h1, h2, h3⟩ => by rw [h1]; exact .tup h2 (DenL.dp h3)
theorem DenL.dp : ∀ {l : List Dt} {vs : List V}, DenL K H l vs → DpAll K H vs (pyL l)
  | [], _, h => by rw [show _ = [] from h]; exact .nil
  | _ :: _, _, ⟨v, r, h1, h2, h3⟩ => by rw [h1]; exact .cons (Den.dp h2) (DenL.dp h3)
end
/-! no truth values within -/
mutual
def Dt.nob : Dt → Bool
  | .b _ => false
  | .t l => nobL l
  | _ => true
def nobL : List Dt → Bool
  | [] => true
  | d :: l => d.nob && nobL l
end
mutual
theorem eqv_iff : ∀ (d e : Dt), d.nob = true → e.nob = true → (PyData.eqv d.py e.py = true ↔ d = e)
  | .n, e, _, h => by
    cases e with
    | b y => exact absurd h (by simp [Dt.nob])
    | _ => simp [Dt.py, PyData.eqv]
  | .i x, e, _, h => by
    cases e with
    | b y => exact absurd h (by simp [Dt.nob])
    | _ => simp [Dt.py, PyData.eqv]
  | .s x, e, _, h => by
    cases e with
    | b y => exact absurd h (by simp [Dt.nob])
    | _ => simp [Dt.py, PyData.eqv]
  | .b x, _, h, _ => absurd h (by simp [Dt.nob])
  | .t l, e, h, h' => by
    cases e with
    | t l' =>
      have q := eqvL_iff l l' (by simpa [Dt.nob] using h) (by simpa [Dt.nob] using h')
      simp only [Dt.py, PyData.eqv, Dt.t.injEq]
      exact q
    | b x => exact absurd h' (by simp [Dt.nob])
    | _ => simp [Dt.py, PyData.eqv]
theorem eqvL_iff : ∀ (d e : List Dt), nobL d = true → nobL e = true → (PyData.eqvAll (pyL d) (pyL e) = true ↔ d = e)
  | [], e, _, _ => by cases e <;> simp [pyL, PyData.eqvAll]
  | d :: l, e, h, h' => by
    cases e with
    | nil => simp [pyL, PyData.eqvAll]
    | cons d' l' =>
      obtain ⟨h1, h2⟩ := Bool.and_eq_true_iff.mp (show (d.nob && nobL l) = true by simpa [nobL] using h)
      obtain ⟨h1', h2'⟩ := Bool.and_eq_true_iff.mp (show (d'.nob && nobL l') = true by simpa [nobL] using h')
      have q1 := eqv_iff d d' h1 h1'
      have q2 := eqvL_iff l l' h2 h2'
      simp only [pyL, PyData.eqvAll, Bool.and_eq_true, List.cons.injEq]
      exact and_congr q1 q2
end
end
end K28
end
section
set_option Elab.async false
set_option linter.all false
set_option maxRecDepth 100000
set_option maxHeartbeats 2000000
/-! comprehensions and walks over data -/
namespace K28
open PySem L2
def tFalse : TE := fun _ _ _ => False
theorem pe_never {X : Cx} {e : Expr} : PE X e tFalse := ⟨fun _ _ _ _ _ _ h => h.elim⟩
/-- a list or a tuple that is walked -/
def iAny (K : PySem.W.Frag) (tl : TE) : TI := fun σ H R => tl σ H fun x H1 => ∃ a, x = .ref a ∧ ((∃ xs, SqL K H1 a xs ∧ R (Itl K a) H1) ∨ (∃ xs, SqT K H1 a xs ∧ R (Itt K a) H1))
theorem pi_any {X : Cx} {tg l : Expr} {tl : TE} (hl : PE X l tl) : PI X tg l (iAny X.K tl) := by
  refine ⟨fun pins s σ H R I h => ?_⟩
  refine thn (hl.run pins s σ H _ I h) fun v s1 ⟨x, H1, I1, r1, a, ex, q⟩ => ?_
  have one : PE { X with xe := X.xe } l tl := hl
  rcases q with ⟨xs, hx, q⟩ | ⟨xs, hx, q⟩
  · subst ex
    obtain ⟨its, _, p, _⟩ := I1.list hx
    have lt : a < s1.heap.objs.size := p.lt
    cases r1
    refine wpAny_pyIter_list p.isList ?_
    refine ⟨s1.heap.objs.size, [s1.heap.objs.size], _, _, H1, rfl, I1.kept (t' := s1.toks) (fun b u q => Heap.get?_push_of_some _ q), turn_list a _, ⟨_, Heap.get?_push_size _ rfl, rfl, rfl⟩, fun b hb => ?_, q⟩
    rw [List.mem_singleton.mp hb]
    exact I1.fpOk (Nat.le_refl _) (I1.hok.fresh (Nat.le_refl _))
  · subst ex
    obtain ⟨its, _, p, _⟩ := I1.tuple hx
    cases r1
    refine wpAny_pyIter_tuple (show s1.heap.IsTuple a its.toArray from p) ?_
    refine ⟨s1.heap.objs.size, [s1.heap.objs.size], _, _, H1, rfl, I1.kept (t' := s1.toks) (fun b u q => Heap.get?_push_of_some _ q), turn_tuple a _, ⟨_, Heap.get?_push_size _ rfl, rfl, rfl⟩, fun b hb => ?_, q⟩
    rw [List.mem_singleton.mp hb]
    exact I1.fpOk (Nat.le_refl _) (I1.hok.fresh (Nat.le_refl _))
theorem szl {n : Nat} (h : n ≤ 1000000) : n ≤ sizeLine := by rw [sizeLine_eq]; omega
theorem szlt {n : Nat} (h : n ≤ 1000000) : n < sizeLine := by rw [sizeLine_eq]; omega
/-- what the target does and what follows, in one -/
abbrev EltK (σ : L2.St) (vs : List Nat) (g : TG) (te : TE) (x : V) (H2 : Hp) (Q : VK) : Prop := g x (wipe σ vs) H2 fun σ2 H3 => wipe σ2 vs = wipe σ vs ∧ te σ2 H3 Q
/-- what stands of a list's new item when the list itself is written -/
def Rest (D : Addr) (E : V → Hp → Prop) : Prop := ∀ y H p xs ys, E y H → H p = some (.lst xs) → p = D → E y (upd H p (.lst ys))
section
variable {K : PySem.W.Frag} {J : It} {n : Nat} {G : Hp → Prop} {Y : Nat → Hp → V → Hp → Prop} {σ : L2.St} {H1 : Hp} {g : TG} {te : TE} {vs : List Nat} {Q : VK}
/-- a comprehension whose items are data -/
theorem lc_map {D : Addr} (hD : H1 D = none) {Qd : Hp → Prop} (wk : Walk J n G Y) (f : Nat → Dt) (hz : n ≤ 100000) (hG : ∀ H', Same H1 H' → G H')
    (body : ∀ i x H' H2 (Q' : VK), i < n → Same H1 H' → Y i H' x H2 → (∀ y H4, Same H' H4 → Den K H4 (f i) y → Q' y H4) → EltK σ vs g te x H2 Q')
    (post : ∀ H' ys, Same H1 H' → H' D = some (.lst ys) → DenL K H' ((List.range n).map f) ys → Qd H') :
    ∃ W : Nat → Nat → Hp → Prop, (∃ m, W 0 m (upd H1 D (.lst []))) ∧ ∀ i m H, W i m H →
      (J.stop i H ∧ Qd H) ∨ (J.go i H ∧ ∃ Nx : Hp → Prop, (∀ H', Nx H' → ∃ m', m' < m ∧ W (i + 1) m' H') ∧ ∀ x H', J.yld i H x H' → g x (wipe σ vs) H' fun σ2 H2 => wipe σ2 vs = wipe σ vs ∧ tYes σ2 H2 fun b H3 =>
        if b = true then te σ2 H3 fun y H4 => ∃ acc, H4 D = some (.lst acc) ∧ acc.length < sizeLine ∧ Nx (upd H4 D (.lst (acc ++ [y]))) else Nx H3) := by
  refine lc_it wk (fun i H => Same H1 H ∧ ∃ ys, H D = some (.lst ys) ∧ DenL K H ((List.range i).map f) ys) ⟨same_new hD, [], upd_same, rfl⟩ (fun i H _ h => hG H h.1) ?_ ?_
  · rintro i x H H' hi ⟨s1, ys, eD, dL⟩ hy
    refine body i x H H' _ hi s1 hy fun y H4 s4 dy => ?_
    have eD4 := s4 _ _ eD
    have ln := dL.length
    rw [List.length_map, List.length_range] at ln
    refine ⟨ys, eD4, szlt (by omega), fun b o e => ?_, ys ++ [y], upd_same, ?_⟩
    · rw [upd_ne (ne_of_none e hD)]; exact s4 _ _ (s1 _ _ e)
    · have xt : ExT K H4 (upd H4 D (.lst (ys ++ [y]))) := ext_upd eD4 rfl
      rw [List.range_succ, List.map_append]
      exact denL_snoc ((dL.mono (Same.ext s4)).mono xt) (dy.mono xt)
  · rintro H ⟨s1, ys, eD, dL⟩
    exact post H ys s1 eD dL
/-- with a test -/
theorem lc_filter {D : Addr} (hD : H1 D = none) {Qd : Hp → Prop} {tt : TT} (wk : Walk J n G Y) (t : Nat → Bool) (f : Nat → Dt) (hz : n ≤ 100000) (hG : ∀ H', Same H1 H' → G H')
    (body : ∀ i x H' H2 (Qt : VK) (Qf : Hp → Prop), i < n → Same H1 H' → Y i H' x H2 → (t i = true → ∀ y H4, Same H' H4 → Den K H4 (f i) y → Qt y H4) → (t i = false → ∀ H4, Same H' H4 → Qf H4) →
      g x (wipe σ vs) H2 fun σ2 H3 => wipe σ2 vs = wipe σ vs ∧ tt σ2 H3 fun b H4 => if b = true then te σ2 H4 Qt else Qf H4)
    (post : ∀ H' ys, Same H1 H' → H' D = some (.lst ys) → DenL K H' (((List.range n).filter t).map f) ys → Qd H') :
    ∃ W : Nat → Nat → Hp → Prop, (∃ m, W 0 m (upd H1 D (.lst []))) ∧ ∀ i m H, W i m H →
      (J.stop i H ∧ Qd H) ∨ (J.go i H ∧ ∃ Nx : Hp → Prop, (∀ H', Nx H' → ∃ m', m' < m ∧ W (i + 1) m' H') ∧ ∀ x H', J.yld i H x H' → g x (wipe σ vs) H' fun σ2 H2 => wipe σ2 vs = wipe σ vs ∧ tt σ2 H2 fun b H3 =>
        if b = true then te σ2 H3 fun y H4 => ∃ acc, H4 D = some (.lst acc) ∧ acc.length < sizeLine ∧ Nx (upd H4 D (.lst (acc ++ [y]))) else Nx H3) := by
  refine lc_it wk (fun i H => Same H1 H ∧ ∃ ys, H D = some (.lst ys) ∧ DenL K H (((List.range i).filter t).map f) ys) ⟨same_new hD, [], upd_same, rfl⟩ (fun i H _ h => hG H h.1) ?_ ?_
  · rintro i x H H' hi ⟨s1, ys, eD, dL⟩ hy
    refine body i x H H' _ _ hi s1 hy (fun ht y H4 s4 dy => ?_) fun ht H4 s4 => ?_
    · have eD4 := s4 _ _ eD
      have ln := dL.length
      rw [List.length_map] at ln
      have l2 := List.length_filter_le t (List.range i)
      rw [List.length_range] at l2
      refine ⟨ys, eD4, szlt (by omega), fun b o e => ?_, ys ++ [y], upd_same, ?_⟩
      · rw [upd_ne (ne_of_none e hD)]; exact s4 _ _ (s1 _ _ e)
      · have xt : ExT K H4 (upd H4 D (.lst (ys ++ [y]))) := ext_upd eD4 rfl
        rw [List.range_succ, List.filter_append, List.map_append]
        simp only [List.filter_cons, ht, if_true, List.filter_nil, List.map_cons, List.map_nil]
        exact denL_snoc ((dL.mono (Same.ext s4)).mono xt) (dy.mono xt)
    · refine ⟨s1.trans s4, ys, s4 _ _ eD, ?_⟩
      rw [List.range_succ, List.filter_append, List.map_append]
      simp only [List.filter_cons, ht, Bool.false_eq_true, if_false, List.filter_nil, List.map_nil, List.append_nil]
      exact dL.mono (Same.ext s4)
  · rintro H ⟨s1, ys, eD, dL⟩
    exact post H ys s1 eD dL
/-- rows: lists of ints -/
def RowsL (H : Hp) : List V → List (List Int) → Prop
  | [], rs => rs = []
  | v :: vs, rs => ∃ a r rs', rs = r :: rs' ∧ v = .ref a ∧ H a = some (.lst (r.map V.int)) ∧ RowsL H vs rs'
end
/-! lists by places -/
theorem map_at {α β : Type} (xs : List α) (d : α) (F : α → β) : (List.range xs.length).map (fun i => F (xs.getD i d)) = xs.map F := by
  apply List.ext_getElem
  · simp
  · intro i h1 h2
    simp only [List.length_map, List.length_range] at h1
    simp [List.getD_eq_getElem?_getD, List.getElem?_eq_getElem h1]
theorem zip_at {α β γ : Type} (xs : List α) (ys : List β) (d : α) (e : β) (F : α → β → γ) : (List.range (min xs.length ys.length)).map (fun i => F (xs.getD i d) (ys.getD i e)) = List.zipWith F xs ys := by
  apply List.ext_getElem
  · simp
  · intro i h1 h2
    simp only [List.length_map, List.length_range] at h1
    have a1 : i < xs.length := by omega
    have a2 : i < ys.length := by omega
    simp [List.getD_eq_getElem?_getD, List.getElem?_eq_getElem a1, List.getElem?_eq_getElem a2]
theorem DenL.bools {K : PySem.W.Frag} {H : Hp} : ∀ {bs : List Bool} {vs : List V}, DenL K H (bs.map Dt.b) vs → vs = bs.map V.bl
  | [], _, h => h
  | b :: bs, _, ⟨v, r, h1, h2, h3⟩ => by rw [h1, DenL.bools h3, show v = V.bl b from h2]; rfl
theorem int_get {xs : List Int} {i : Nat} {x : V} (h : (xs.map V.int)[i]? = some x) : x = .int (xs.getD i 0) ∧ i < xs.length := by
  rw [List.getElem?_map] at h
  cases e : xs[i]? with
  | none => rw [e] at h; cases h
  | some y =>
    rw [e] at h
    refine ⟨?_, (List.getElem?_eq_some_iff.mp e).1⟩
    rw [List.getD_eq_getElem?_getD, e]
    exact (Option.some.inj h).symm
theorem getD_in {xs : List Int} {i : Nat} (h : i < xs.length) : xs.getD i 0 ∈ xs := by
  rw [List.getD_eq_getElem?_getD, List.getElem?_eq_getElem h]
  exact List.getElem_mem h
/-- two names for a pair -/
theorem g_pair {K : PySem.W.Frag} {i j : Nat} {T : Addr} {x y : V} {σ : L2.St} {H : Hp} {Q : L2.St → Hp → Prop} (h : SqT K H T [x, y]) (q : Q ((σ.set i (some x)).set j (some y)) H) :
    gTup K 2 (gCons (gName i) (gCons (gName j) gNil)) (.ref T) σ H Q := ⟨T, _, rfl, h, rfl, x, _, rfl, y, _, rfl, rfl, q⟩
section
variable {K : PySem.W.Frag} {σ : L2.St} {H1 : Hp} {te : TE} {vs : List Nat} {Q : VK} {k j : Bool} {a b : Addr} {p q : Nat}
/-- what a comprehension's reading asks, from its iterator on -/
abbrev LcGoal (D : Addr) (J : It) (H1 : Hp) (σ : L2.St) (vs : List Nat) (g : TG) (tt : TT) (te : TE) (Qd : Hp → Prop) : Prop := ∃ W : Nat → Nat → Hp → Prop, (∃ m, W 0 m (upd H1 D (.lst []))) ∧ ∀ i m H, W i m H →
      (J.stop i H ∧ Qd H) ∨ (J.go i H ∧ ∃ Nx : Hp → Prop, (∀ H', Nx H' → ∃ m', m' < m ∧ W (i + 1) m' H') ∧ ∀ x H', J.yld i H x H' → g x (wipe σ vs) H' fun σ2 H2 => wipe σ2 vs = wipe σ vs ∧ tt σ2 H2 fun b H3 =>
        if b = true then te σ2 H3 fun y H4 => ∃ acc, H4 D = some (.lst acc) ∧ acc.length < sizeLine ∧ Nx (upd H4 D (.lst (acc ++ [y]))) else Nx H3)
theorem seqB_same {H H' : Hp} {xs : List V} (e : Same H H') (h : SqB k K H a xs) : SqB k K H' a xs := by
  cases k
  · exact Same.ext e _ _ h
  · exact Same.seq e h
/-- [f x y for x, y in zip(xs, ys)], ints -/
theorem lc_zipI {D : Addr} (hD : H1 D = none) {Qd : Hp → Prop} {xs ys : List Int} (ha : SqB k K H1 a (xs.map V.int)) (hb : SqB j K H1 b (ys.map V.int)) (F : Int → Int → Int) (hz : xs.length ≤ 100000)
    (hw : ∀ x y, wipe (((wipe σ vs).set p (some x)).set q (some y)) vs = wipe σ vs)
    (body : ∀ x y (Q' : VK) H2, x ∈ xs → y ∈ ys → Same H1 H2 → Q' (.int (F x y)) H2 → te (((wipe σ vs).set p (some (.int x))).set q (some (.int y))) H2 Q')
    (post : ∀ H', Same H1 H' → H' D = some (.lst ((List.zipWith F xs ys).map V.int)) → Qd H') :
    LcGoal D (ItzB k j K a b) H1 σ vs (gTup K 2 (gCons (gName p) (gCons (gName q) gNil))) tYes te Qd := by
  refine lc_map hD (K := K) (n := min xs.length ys.length) (walk_zipB (xs := xs.map V.int) (ys := ys.map V.int) (by simp)) (fun i => .i (F (xs.getD i 0) (ys.getD i 0))) (by omega) (fun H' s => ⟨seqB_same s ha, seqB_same s hb⟩) ?_ ?_
  · rintro i v H' H2 Q' hi s ⟨T, x, y, rfl, nT, rfl, ex, ey⟩ q'
    obtain ⟨rfl, h1⟩ := int_get ex
    obtain ⟨rfl, h2⟩ := int_get ey
    refine g_pair (.inl (.inl upd_same)) ⟨hw _ _, ?_⟩
    exact body _ _ _ _ (getD_in h1) (getD_in h2) (s.trans (same_new nT)) (q' _ _ (same_new nT) rfl)
  · intro H' us s eD dL
    have e := zip_at xs ys 0 0 (fun x y => Dt.i (F x y))
    rw [e] at dL
    have e2 : List.zipWith (fun x y => Dt.i (F x y)) xs ys = (List.zipWith F xs ys).map Dt.i := by rw [List.map_zipWith]
    rw [e2] at dL
    rw [dL.ints] at eD
    exact post H' s eD
/-- [f x for x in xs], ints -/
theorem lc_tupI {D : Addr} (hD : H1 D = none) {Qd : Hp → Prop} {xs : List Int} (ha : SqT K H1 a (xs.map V.int)) (F : Int → Int) (hz : xs.length ≤ 100000) (hw : ∀ x, wipe ((wipe σ vs).set p (some x)) vs = wipe σ vs)
    (body : ∀ x (Q' : VK) H2, x ∈ xs → Same H1 H2 → Q' (.int (F x)) H2 → te ((wipe σ vs).set p (some (.int x))) H2 Q')
    (post : ∀ H', Same H1 H' → H' D = some (.lst ((xs.map F).map V.int)) → Qd H') : LcGoal D (Itt K a) H1 σ vs (gName p) tYes te Qd := by
  refine lc_map hD (K := K) (n := xs.length) (G := fun H => SqT K H a (xs.map V.int)) (Y := YAt (xs.map V.int)) (by simpa using (walk_tup (K := K) (a := a) (xs := xs.map V.int))) (fun i => .i (F (xs.getD i 0))) hz (fun H' s => Same.ext s _ _ ha) ?_ ?_
  · rintro i v H' H2 Q' hi s ⟨rfl, ex⟩ q'
    obtain ⟨rfl, h1⟩ := int_get ex
    exact ⟨hw _, body _ _ _ (getD_in h1) s (q' _ _ (Same.refl _) rfl)⟩
  · intro H' us s eD dL
    have e := map_at xs 0 (fun x => Dt.i (F x))
    rw [e] at dL
    have e2 : xs.map (fun x => Dt.i (F x)) = (xs.map F).map Dt.i := by rw [List.map_map]; rfl
    rw [e2] at dL
    rw [dL.ints] at eD
    exact post H' s eD
theorem lc_lstI {D : Addr} (hD : H1 D = none) {Qd : Hp → Prop} {xs : List Int} (ha : SqL K H1 a (xs.map V.int)) (F : Int → Int) (hz : xs.length ≤ 100000) (hw : ∀ x, wipe ((wipe σ vs).set p (some x)) vs = wipe σ vs)
    (body : ∀ x (Q' : VK) H2, x ∈ xs → Same H1 H2 → Q' (.int (F x)) H2 → te ((wipe σ vs).set p (some (.int x))) H2 Q')
    (post : ∀ H', Same H1 H' → H' D = some (.lst ((xs.map F).map V.int)) → Qd H') : LcGoal D (Itl K a) H1 σ vs (gName p) tYes te Qd := by
  refine lc_map hD (K := K) (n := xs.length) (G := fun H => SqL K H a (xs.map V.int)) (Y := YAt (xs.map V.int)) (by simpa using (walk_list (K := K) (a := a) (xs := xs.map V.int))) (fun i => .i (F (xs.getD i 0))) hz (fun H' s => Same.seq s ha) ?_ ?_
  · rintro i v H' H2 Q' hi s ⟨rfl, ex⟩ q'
    obtain ⟨rfl, h1⟩ := int_get ex
    exact ⟨hw _, body _ _ _ (getD_in h1) s (q' _ _ (Same.refl _) rfl)⟩
  · intro H' us s eD dL
    have e := map_at xs 0 (fun x => Dt.i (F x))
    rw [e] at dL
    have e2 : xs.map (fun x => Dt.i (F x)) = (xs.map F).map Dt.i := by rw [List.map_map]; rfl
    rw [e2] at dL
    rw [dL.ints] at eD
    exact post H' s eD
/-- [p x for x in xs], truth values -/
theorem lc_tupB {D : Addr} (hD : H1 D = none) {Qd : Hp → Prop} {ds : List Dt} {us : List V} (ha : SqT K H1 a us) (hd : DenL K H1 ds us) (F : Dt → Bool) (hz : ds.length ≤ 100000) (hw : ∀ x, wipe ((wipe σ vs).set p (some x)) vs = wipe σ vs)
    (body : ∀ d x (Q' : VK) H2, d ∈ ds → Same H1 H2 → Den K H2 d x → (∀ H4, Same H2 H4 → Q' (.bl (F d)) H4) → te ((wipe σ vs).set p (some x)) H2 Q')
    (post : ∀ H', Same H1 H' → H' D = some (.lst ((ds.map F).map V.bl)) → Qd H') : LcGoal D (Itt K a) H1 σ vs (gName p) tYes te Qd := by
  have ln := hd.length
  refine lc_map hD (K := K) (n := ds.length) (G := fun H => SqT K H a us) (Y := YAt us) (by rw [← ln]; exact walk_tup) (fun i => .b (F (ds.getD i .n))) hz (fun H' s => Same.ext s _ _ ha) ?_ ?_
  · rintro i v H' H2 Q' hi s ⟨rfl, ex⟩ q'
    obtain ⟨d, ed, dd⟩ := hd.at ex
    have e : ds.getD i .n = d := by rw [List.getD_eq_getElem?_getD, ed]; rfl
    rw [e] at q'
    exact ⟨hw _, body d _ _ _ (List.mem_of_getElem? ed) s (dd.mono (Same.ext s)) fun H4 s4 => q' _ _ s4 rfl⟩
  · intro H' us' s eD dL
    have e := map_at ds .n (fun x => Dt.b (F x))
    rw [e] at dL
    have e2 : ds.map (fun x => Dt.b (F x)) = (ds.map F).map Dt.b := by rw [List.map_map]; rfl
    rw [e2] at dL
    rw [dL.bools] at eD
    exact post H' s eD
theorem lc_lstB {D : Addr} (hD : H1 D = none) {Qd : Hp → Prop} {ds : List Dt} {us : List V} (ha : SqL K H1 a us) (hd : DenL K H1 ds us) (F : Dt → Bool) (hz : ds.length ≤ 100000) (hw : ∀ x, wipe ((wipe σ vs).set p (some x)) vs = wipe σ vs)
    (body : ∀ d x (Q' : VK) H2, d ∈ ds → Same H1 H2 → Den K H2 d x → (∀ H4, Same H2 H4 → Q' (.bl (F d)) H4) → te ((wipe σ vs).set p (some x)) H2 Q')
    (post : ∀ H', Same H1 H' → H' D = some (.lst ((ds.map F).map V.bl)) → Qd H') : LcGoal D (Itl K a) H1 σ vs (gName p) tYes te Qd := by
  have ln := hd.length
  refine lc_map hD (K := K) (n := ds.length) (G := fun H => SqL K H a us) (Y := YAt us) (by rw [← ln]; exact walk_list) (fun i => .b (F (ds.getD i .n))) hz (fun H' s => Same.seq s ha) ?_ ?_
  · rintro i v H' H2 Q' hi s ⟨rfl, ex⟩ q'
    obtain ⟨d, ed, dd⟩ := hd.at ex
    have e : ds.getD i .n = d := by rw [List.getD_eq_getElem?_getD, ed]; rfl
    rw [e] at q'
    exact ⟨hw _, body d _ _ _ (List.mem_of_getElem? ed) s (dd.mono (Same.ext s)) fun H4 s4 => q' _ _ s4 rfl⟩
  · intro H' us' s eD dL
    have e := map_at ds .n (fun x => Dt.b (F x))
    rw [e] at dL
    have e2 : ds.map (fun x => Dt.b (F x)) = (ds.map F).map Dt.b := by rw [List.map_map]; rfl
    rw [e2] at dL
    rw [dL.bools] at eD
    exact post H' s eD
/-- [f k for k in range(n)], ints -/
theorem lc_rngI {D : Addr} (hD : H1 D = none) {Qd : Hp → Prop} {n : Nat} (F : Nat → Int) (hz : n ≤ 100000) (hw : ∀ x, wipe ((wipe σ vs).set p (some x)) vs = wipe σ vs)
    (body : ∀ i (Q' : VK) H2, i < n → Same H1 H2 → Q' (.int (F i)) H2 → te ((wipe σ vs).set p (some (.int (0 + (i : Nat))))) H2 Q')
    (post : ∀ H', Same H1 H' → H' D = some (.lst (((List.range n).map F).map V.int)) → Qd H') : LcGoal D (Itr 0 n) H1 σ vs (gName p) tYes te Qd := by
  refine lc_map hD (K := ([] : PySem.W.Frag)) (n := n) walk_range (fun i => .i (F i)) hz (fun _ _ => trivial) ?_ ?_
  · rintro i v H' H2 Q' hi s ⟨rfl, rfl⟩ q'
    exact ⟨hw _, body i _ _ hi s (q' _ _ (Same.refl _) rfl)⟩
  · intro H' us' s eD dL
    have e2 : (List.range n).map (fun x => Dt.i (F x)) = ((List.range n).map F).map Dt.i := by rw [List.map_map]; rfl
    rw [e2] at dL
    rw [dL.ints] at eD
    exact post H' s eD
end
/-- a tuple's type -/
theorem ty_tup {K : PySem.W.Frag} {H : Hp} {a : Addr} {xs : List V} (h : SqT K H a xs) : TyX K H (.ref a) (.type "tuple") := by
  rcases h with (h | ⟨o, h⟩) | ⟨o, its, n, h, hc, _⟩
  · exact .base (.tup h)
  · exact .fTuple h
  · exact .kTuple h hc
/-! rules whose readings stay closed: each is used by one lemma -/
@[irreducible] def kIsi (K : PySem.W.Frag) : List V → Hp → VK → Prop := rIsi K
@[irreducible] def kCat (K : PySem.W.Frag) : R2 := rCatA K
@[irreducible] def kRep (K : PySem.W.Frag) : R2 := rRepA K
@[irreducible] def kSl (K : PySem.W.Frag) : V → Option Int → Option Int → Hp → VK → Prop := rSlA K
@[irreducible] def kEq (K : PySem.W.Frag) : R2 := rEqD K
@[irreducible] def kNe (K : PySem.W.Frag) : R2 := rNeD K
section
variable {X : Cx}
theorem call_kisi : CallR X (.builtin "isinstance") (kIsi X.K) := by unfold kIsi; exact call_isi
theorem op_kcat : OpR X (binaryOp .Add) (kCat X.K) := by unfold kCat; exact op_catA
theorem op_krep : OpR X (binaryOp .Mult) (kRep X.K) := by unfold kRep; exact op_repA
theorem sl_ktup : SlR X (kSl X.K) := by unfold kSl; exact sl_tupA
theorem op_keq (hu : X.A.units + 64 < cLine) : OpR X (compareOp .Eq) (kEq X.K) := by unfold kEq; exact op_eqD hu
theorem op_kne (hu : X.A.units + 64 < cLine) : OpR X (compareOp .NotEq) (kNe X.K) := by unfold kNe; exact op_neD hu
end
section
variable {K : PySem.W.Frag} {H : Hp} {Q : VK} {a b : Addr} {xs ys : List V}
theorem use_isi {x : V} {t c : String} {r : Bool} (ty : TyX K H x (.type t)) (h : kitB t c = some r) (q : Q (.bl r) H) : kIsi K [x, .ty c] H Q := by
  unfold kIsi
  exact ⟨x, .ty c, _, _, r, rfl, .ty c, ty, kit_ty h, q⟩
theorem use_cat (ha : SqT K H a xs) (hb : SqT K H b ys) (hz : xs.length + ys.length ≤ 1000000) (q : ∀ c H', Same H H' → SqT K H' c (xs ++ ys) → Q (.ref c) H') : kCat K (.ref a) (.ref b) H Q := by
  unfold kCat
  refine ⟨a, b, xs, ys, rfl, rfl, ha, hb, szl hz, fun e => ?_, fun e1 e2 => ?_, fun e1 e2 p hp => ?_⟩
  · exact q b H (Same.refl H) (by rw [e]; exact hb)
  · exact q a H (Same.refl H) (by rw [e2, List.append_nil]; exact ha)
  · exact q p _ (same_new hp) (.inl (.inl upd_same))
theorem use_rep {k : Int} (ha : SqT K H a xs) (hne : xs ≠ []) (h0 : 0 ≤ k) (h1 : k ≤ 1000) (hz : xs.length ≤ 1000) (q : ∀ c H', Same H H' → SqT K H' c (List.replicate k.toNat xs).flatten → Q (.ref c) H') : kRep K (.ref a) (.int k) H Q := by
  unfold kRep
  refine ⟨a, k, xs, rfl, rfl, ha, hne, h0, h1, hz, fun e => ?_, fun e p hp => ?_⟩
  · refine q a H (Same.refl H) ?_
    rw [e]
    simpa using ha
  · exact q p _ (same_new hp) (.inl (.inl upd_same))
theorem use_sl {lo hi : Option Int} (ha : SqT K H a xs) (q : ∀ c H', Same H H' → SqT K H' c (cutV xs lo hi) → Q (.ref c) H') : kSl K (.ref a) lo hi H Q := by
  unfold kSl
  refine ⟨a, xs, rfl, ha, fun e => ?_, fun e p hp => ?_⟩
  · refine q a H (Same.refl H) ?_
    unfold cutV
    rw [e.1, e.2, List.drop_zero, Nat.sub_zero, List.take_length]
    exact ha
  · exact q p _ (same_new hp) (.inl (.inl upd_same))
theorem use_eq {x y : V} {d e : Dt} (hx : Den K H d x) (hy : Den K H e y) (s1 : SeqAt.shaped d.py = true) (s2 : SeqAt.shaped e.py = true) (n1 : d.nob = true) (n2 : e.nob = true)
    (q1 : d = e → Q (.bl true) H) (q2 : d ≠ e → Q (.bl false) H) : kEq K x y H Q := by
  unfold kEq
  refine ⟨d.py, e.py, hx.dp, hy.dp, s1, s2, ?_⟩
  by_cases h : d = e
  · rw [(eqv_iff d e n1 n2).mpr h]; exact q1 h
  · rw [Bool.eq_false_iff.mpr (fun z => h ((eqv_iff d e n1 n2).mp z))]; exact q2 h
theorem use_ne {x y : V} {d e : Dt} (hx : Den K H d x) (hy : Den K H e y) (s1 : SeqAt.shaped d.py = true) (s2 : SeqAt.shaped e.py = true) (n1 : d.nob = true) (n2 : e.nob = true)
    (q1 : d = e → Q (.bl false) H) (q2 : d ≠ e → Q (.bl true) H) : kNe K x y H Q := by
  unfold kNe
  refine ⟨d.py, e.py, hx.dp, hy.dp, s1, s2, ?_⟩
  by_cases h : d = e
  · rw [(eqv_iff d e n1 n2).mpr h]; exact q1 h
  · rw [Bool.eq_false_iff.mpr (fun z => h ((eqv_iff d e n1 n2).mp z))]; exact q2 h
end
/-- numbers of fewer than 1000 bits -/
def Big (w : List Int) : Prop := ∀ x ∈ w, x.natAbs < 2 ^ 1000
theorem big_mul {x y : Int} (hx : x.natAbs < 2 ^ 1000) (hy : y.natAbs < 2 ^ 1000) : CMulW x y := wide_mul hx hy (by decide) (by decide) (by decide)
end K28
end
section
set_option Elab.async false
set_option linter.all false
set_option maxRecDepth 100000
set_option maxHeartbeats 2000000
/-! the layer's rules with the written part told: what stands in a comprehension must not lean on its frame -/
namespace K28
open PySem L2
def rLenQ (K : PySem.W.Frag) : List V → Hp → VK → Prop := fun xs H Q => ∃ p ys, xs = [.ref p] ∧ (SqL K H p ys ∨ SqT K H p ys) ∧ Q (.int (ys.length : Nat)) H
def rLstQ (K : PySem.W.Frag) : List V → Hp → VK → Prop := fun xs H Q => ∃ p ys, xs = [.ref p] ∧ (SqL K H p ys ∨ SqT K H p ys) ∧ ∀ l, H l = none → Q (.ref l) (upd H l (.lst ys))
def rTupQ (K : PySem.W.Frag) : List V → Hp → VK → Prop := fun xs H Q => ∃ p ys, xs = [.ref p] ∧ ((SqL K H p ys ∧ ∀ l, H l = none → Q (.ref l) (upd H l (.tup ys))) ∨ (SqT K H p ys ∧ Q (.ref p) H))
section
variable (K : PySem.W.Frag) {X : Cx}
theorem k_ixL (h : X.K = K := by rfl) : IxR X (rIxL K) := by subst h; exact ix_list
theorem k_ixT (h : X.K = K := by rfl) : IxR X (rIxT K) := by subst h; exact ix_tup
theorem k_isi (h : X.K = K := by rfl) : CallR X (.builtin "isinstance") (kIsi K) := by subst h; exact call_kisi
theorem k_cat (h : X.K = K := by rfl) : OpR X (binaryOp .Add) (kCat K) := by subst h; exact op_kcat
theorem k_rep (h : X.K = K := by rfl) : OpR X (binaryOp .Mult) (kRep K) := by subst h; exact op_krep
theorem k_slT (h : X.K = K := by rfl) : SlR X (kSl K) := by subst h; exact sl_ktup
theorem k_slL (h : X.K = K := by rfl) : SlR X (rSlL K) := by subst h; exact sl_list
theorem k_eq (hu : X.A.units + 64 < cLine) (h : X.K = K := by rfl) : OpR X (compareOp .Eq) (kEq K) := by subst h; exact op_keq hu
theorem k_ne (hu : X.A.units + 64 < cLine) (h : X.K = K := by rfl) : OpR X (compareOp .NotEq) (kNe K) := by subst h; exact op_kne hu
theorem k_all (hc : X.calm = true) (h : X.K = K := by rfl) : CallR X (.builtin "all") (rAll K) := by subst h; exact cr_all hc
theorem k_sum (hc : X.calm = true) (h : X.K = K := by rfl) : CallR X (.builtin "sum") (rSum K) := by subst h; exact cr_sum hc
theorem k_sumT (hc : X.calm = true) (h : X.K = K := by rfl) : CallR X (.builtin "sum") (rSumT K) := by subst h; exact cr_sumT hc
theorem k_max (hc : X.calm = true) (h : X.K = K := by rfl) : CallR X (.builtin "max") (rMax K) := by subst h; exact cr_max hc
theorem k_min (hc : X.calm = true) (h : X.K = K := by rfl) : CallR X (.builtin "min") (rMin K) := by subst h; exact cr_min hc
theorem k_maxT (hc : X.calm = true) (h : X.K = K := by rfl) : CallR X (.builtin "max") (rMaxT K) := by subst h; exact cr_maxT hc
theorem k_minT (hc : X.calm = true) (h : X.K = K := by rfl) : CallR X (.builtin "min") (rMinT K) := by subst h; exact cr_minT hc
theorem k_len (h : X.K = K := by rfl) : CallR X (.builtin "len") (rLenQ K) := by subst h; exact call_len_seq
theorem k_list (h : X.K = K := by rfl) : CallR X (.type "list") (rLstQ K) := by subst h; exact call_list_of
theorem k_tuple (h : X.K = K := by rfl) : CallR X (.type "tuple") (rTupQ K) := by subst h; exact call_tuple_of
theorem k_inS (h : X.K = K := by rfl) : OpR X (compareOp .In) (rIn K false) := by subst h; exact op_in_seq
theorem k_pil {tg l : Expr} {tl : TE} (hl : PE X l tl) (h : X.K = K := by rfl) : PI X tg l (iList K tl) := by subst h; exact pi_list hl
theorem k_pit {tg l : Expr} {tl : TE} (hl : PE X l tl) (h : X.K = K := by rfl) : PI X tg l (iTup K tl) := by subst h; exact pi_tup hl
theorem k_pia {tg l : Expr} {tl : TE} (hl : PE X l tl) (h : X.K = K := by rfl) : PI X tg l (iAny K tl) := by subst h; exact pi_any hl
theorem k_zip (k j : Bool) {e e2 : Expr} {ta : TA} {p pos tpos : Pos} {elts : List Expr} {kk : Nat} (hg : Gl X "zip") (hm : X.mg "zip" = none) (ha : PA X [e, e2] ta) (h : X.K = K := by rfl)
    (hs : starEach [e, e2] X.env = (false, eval e X.env) :: starEach [e2] X.env := by rfl) (hp : (backTo pos (starEach [e2] X.env)).any (·.1) = false := by rfl) :
    PI X (.Tuple elts kk tpos) (.Call (.Name "zip" p) [e, e2] [] pos) (iZipB k j K ta) := by subst h; exact pi_zipB k j hg hm ha hs hp
theorem k_enum (k : Bool) {e : Expr} {ta : TA} {p pos tpos : Pos} {elts : List Expr} {kk : Nat} (hg : Gl X "enumerate") (hm : X.mg "enumerate" = none) (ha : PA X [e] ta) (h : X.K = K := by rfl)
    (hs : starEach [e] X.env = (false, eval e X.env) :: starEach [] X.env := by rfl) (hp : (backTo pos (starEach [] X.env)).any (·.1) = false := by rfl) :
    PI X (.Tuple elts kk tpos) (.Call (.Name "enumerate" p) [e] [] pos) (iEnumB k K ta) := by subst h; exact pi_enumB k hg hm ha hs hp
theorem k_tgt (n : Nat) {es : List Expr} {k : Nat} {pos : Pos} {t : TGs} (hc : X.calm = true) (hk : PGs X es t) (hn : (assignEach es X.env).length = n := by rfl) (h : X.K = K := by rfl)
    (hi : (assignEach es X.env).findIdx? (·.1) = none := by rfl) : PG X (.Tuple es k pos) (gTup K n t) := by subst h; exact pg_tup hc hk hn hi
theorem k_fld {e : Expr} {f : Str} {pos : Pos} {ta : TE} (he : PE X e ta) (hb : attributeBase e f X.env (eval e X.env) = eval e X.env) (h : X.K = K := by rfl) : PE X (.Attribute e f pos) (tFld K ta f) := by subst h; exact pe_fld he hb
theorem k_revL {e : Expr} {te : TE} {k : Nat} {p1 p2 p3 pos : Pos} (he : PE X e te) (h : X.K = K := by rfl) : PE X (.Subscript e (.Slice none none (some (.UnaryOp .USub (.Constant (.int 1) k p1) p2)) p3) pos) (tRevL K te) := by subst h; exact pe_revL he
end
end K28
end
section
set_option Elab.async false
set_option linter.all false
set_option maxRecDepth 100000
set_option maxHeartbeats 2000000
/-! data that == takes -/
namespace K28
open PySem L2
def Dt.fit : Nat → Dt → Bool
  | _, .n => true
  | _, .b _ => false
  | _, .i _ => true
  | _, .s x => PyData.strOk x
  | 0, .t _ => false
  | k + 1, .t l => l.all (Dt.fit k)
theorem fit_of : ∀ (k : Nat) (d : Dt), d.fit k = true → d.nob = true ∧ PyData.canLay0 d.py = true ∧ PyData.depth d.py ≤ k := by
  intro k
  induction k with
  | zero =>
    intro d h
    cases d with
    | t l => simp [Dt.fit] at h
    | b x => simp [Dt.fit] at h
    | s x => exact ⟨rfl, by simpa [Dt.fit, Dt.py, PyData.canLay0] using h, by simp [Dt.py, PyData.depth]⟩
    | n => exact ⟨rfl, by simp [Dt.py, PyData.canLay0], by simp [Dt.py, PyData.depth]⟩
    | i x => exact ⟨rfl, by simp [Dt.py, PyData.canLay0], by simp [Dt.py, PyData.depth]⟩
  | succ k ih =>
    intro d h
    cases d with
    | b x => simp [Dt.fit] at h
    | s x => exact ⟨rfl, by simpa [Dt.fit, Dt.py, PyData.canLay0] using h, by simp [Dt.py, PyData.depth]⟩
    | n => exact ⟨rfl, by simp [Dt.py, PyData.canLay0], by simp [Dt.py, PyData.depth]⟩
    | i x => exact ⟨rfl, by simp [Dt.py, PyData.canLay0], by simp [Dt.py, PyData.depth]⟩
    | t l =>
      have h' : ∀ d ∈ l, d.fit k = true := by simpa [Dt.fit, List.all_eq_true] using h
      have go : ∀ l : List Dt, (∀ d ∈ l, d.fit k = true) → nobL l = true ∧ PyData.canLayAll0 (pyL l) = true ∧ PyData.depthAll (pyL l) ≤ k := by
        intro l
        induction l with
        | nil => intro _; exact ⟨rfl, by simp [pyL, PyData.canLayAll0], by simp [pyL, PyData.depthAll]⟩
        | cons d l ih2 =>
          intro h
          obtain ⟨a1, a2, a3⟩ := ih d (h d (List.mem_cons_self ..))
          obtain ⟨b1, b2, b3⟩ := ih2 fun e he => h e (List.mem_cons_of_mem _ he)
          refine ⟨by simp [nobL, a1, b1], by simp [pyL, PyData.canLayAll0, a2, b2], ?_⟩
          simp only [pyL, PyData.depthAll]
          omega
      obtain ⟨a1, a2, a3⟩ := go l h'
      refine ⟨by simpa [Dt.nob] using a1, by simpa [Dt.py, PyData.canLay0] using a2, ?_⟩
      simp only [Dt.py, PyData.depth]
      omega
theorem fit_shaped {d : Dt} (h : d.fit 60 = true) : SeqAt.shaped d.py = true := by
  obtain ⟨_, h2, h3⟩ := fit_of 60 d h
  unfold SeqAt.shaped
  simp [h2]
  omega
theorem fit_mono : ∀ (k j : Nat) (d : Dt), k ≤ j → d.fit k = true → d.fit j = true := by
  intro k
  induction k with
  | zero =>
    intro j d _ h
    cases d with
    | t l => simp [Dt.fit] at h
    | b x => simp [Dt.fit] at h
    | _ => cases j <;> simpa [Dt.fit] using h
  | succ k ih =>
    intro j d hj h
    cases d with
    | t l =>
      obtain ⟨j, rfl⟩ : ∃ i, j = i + 1 := ⟨j - 1, by omega⟩
      simp only [Dt.fit, List.all_eq_true] at h ⊢
      exact fun d hd => ih j d (by omega) (h d hd)
    | b x => simp [Dt.fit] at h
    | _ => cases j <;> simpa [Dt.fit] using h
theorem fit_wd (k : Nat) (w : List Int) : (wd w).fit (k + 1) = true := by
  simp only [wd, Dt.fit, List.all_eq_true]
  intro d hd
  obtain ⟨x, _, rfl⟩ := List.mem_map.mp hd
  cases k <;> rfl
section
variable {K : PySem.W.Frag} {H : Hp} {Q : VK}
theorem use_eqF {x y : V} {d e : Dt} (hx : Den K H d x) (hy : Den K H e y) (s1 : d.fit 60 = true) (s2 : e.fit 60 = true) (q1 : d = e → Q (.bl true) H) (q2 : d ≠ e → Q (.bl false) H) : kEq K x y H Q :=
  use_eq hx hy (fit_shaped s1) (fit_shaped s2) (fit_of 60 d s1).1 (fit_of 60 e s2).1 q1 q2
theorem use_neF {x y : V} {d e : Dt} (hx : Den K H d x) (hy : Den K H e y) (s1 : d.fit 60 = true) (s2 : e.fit 60 = true) (q1 : d = e → Q (.bl false) H) (q2 : d ≠ e → Q (.bl true) H) : kNe K x y H Q :=
  use_ne hx hy (fit_shaped s1) (fit_shaped s2) (fit_of 60 d s1).1 (fit_of 60 e s2).1 q1 q2
end
theorem wd_inj {a b : List Int} (h : wd a = wd b) : a = b := by
  have e : a.map Dt.i = b.map Dt.i := Dt.t.inj h
  clear h
  induction a generalizing b with
  | nil => cases b with
    | nil => rfl
    | cons y b => cases e
  | cons x a ih => cases b with
    | nil => cases e
    | cons y b =>
      rw [List.map_cons, List.map_cons] at e
      obtain ⟨h1, h2⟩ := List.cons.inj e
      rw [Dt.i.inj h1, ih h2]
end K28
end
section
set_option Elab.async false
set_option linter.all false
set_option maxRecDepth 100000
set_option maxHeartbeats 2000000
/-! dicts of names, and programs as data -/
namespace K28
open PySem L2
abbrev NL := List (Str × Dt)
def getL (l : NL) (x : Str) : Option Dt := (l.find? fun p => decide (p.1 = x)).map (·.2)
def putL (l : NL) (x : Str) (d : Dt) : NL := if (l.any fun p => decide (p.1 = x)) = true then l.map (fun p => if p.1 = x then (p.1, d) else p) else l ++ [(x, d)]
theorem putL_new {l : NL} {x : Str} {d : Dt} (h : getL l x = none) : putL l x d = l ++ [(x, d)] := by
  unfold putL
  rw [if_neg]
  intro e
  obtain ⟨p, hp, e2⟩ := List.any_eq_true.mp e
  unfold getL at h
  rw [Option.map_eq_none_iff, List.find?_eq_none] at h
  exact h p hp e2
theorem getL_none {l : NL} {x : Str} : getL l x = none ↔ ∀ p ∈ l, p.1 ≠ x := by
  unfold getL
  rw [Option.map_eq_none_iff, List.find?_eq_none]
  exact ⟨fun h p hp e => h p hp (decide_eq_true e), fun h p hp e => h p hp (of_decide_eq_true e)⟩
theorem getL_cons {p : Str × Dt} {l : NL} {x : Str} : getL (p :: l) x = if p.1 = x then some p.2 else getL l x := by
  unfold getL
  rw [List.find?_cons]
  by_cases h : p.1 = x
  · simp [h]
  · simp [h]
theorem getL_append {l r : NL} {x : Str} : getL (l ++ r) x = (getL l x).or (getL r x) := by
  induction l with
  | nil => rfl
  | cons p l ih =>
    rw [List.cons_append, getL_cons, getL_cons, ih]
    split <;> rfl
section
variable {K : PySem.W.Frag} {H H' : Hp}
def DR (K : PySem.W.Frag) (H : Hp) (p : Str × Dt) (kv : Key × V) : Prop := kv.1 = .inr p.1 ∧ Den K H p.2 kv.2
theorem DR.mono (e : ExT K H H') {l : NL} {kvs : List (Key × V)} (h : Paired (DR K H) l kvs) : Paired (DR K H') l kvs := by
  induction h with
  | nil => exact .nil
  | cons h t ih => exact .cons ⟨h.1, h.2.mono e⟩ ih
theorem DR.get {l : NL} {kvs : List (Key × V)} (h : Paired (DR K H) l kvs) (x : Str) : (getL l x = none ∧ valV kvs (.inr x) = none) ∨ ∃ d v, getL l x = some d ∧ valV kvs (.inr x) = some v ∧ Den K H d v := by
  induction h with
  | nil => exact .inl ⟨rfl, rfl⟩
  | cons h t ih =>
    rename_i p kv l kvs
    rw [getL_cons]
    by_cases e : p.1 = x
    · rw [if_pos e, valV_pos (by rw [h.1, e])]
      exact .inr ⟨_, _, rfl, rfl, h.2⟩
    · rw [if_neg e, valV_neg (by rw [h.1]; exact fun z => e (Sum.inr.inj z))]
      exact ih
theorem DR.any {l : NL} {kvs : List (Key × V)} (h : Paired (DR K H) l kvs) (x : Str) : (l.any fun p => decide (p.1 = x)) = (kvs.any fun kv => decide (kv.1 = (.inr x : Key))) := by
  induction h with
  | nil => rfl
  | cons h t ih =>
    rename_i p kv l kvs
    rw [List.any_cons, List.any_cons, ih]
    congr 1
    rw [h.1]
    exact decide_eq_decide.mpr ⟨fun z => by rw [z], fun z => Sum.inr.inj z⟩
theorem DR.app {l r : NL} {kvs qs : List (Key × V)} (h : Paired (DR K H) l kvs) (h' : Paired (DR K H) r qs) : Paired (DR K H) (l ++ r) (kvs ++ qs) := by
  induction h with
  | nil => exact h'
  | cons h t ih => exact .cons h ih
theorem DR.repl {l : NL} {kvs : List (Key × V)} (h : Paired (DR K H) l kvs) {x : Str} {d : Dt} {v : V} (hv : Den K H d v) : Paired (DR K H) (l.map (fun p => if p.1 = x then (p.1, d) else p)) (kvs.map (fun kv => if kv.1 = .inr x then (kv.1, v) else kv)) := by
  induction h with
  | nil => exact .nil
  | cons h t ih =>
    rename_i p kv l kvs
    rw [List.map_cons, List.map_cons]
    refine .cons ?_ ih
    by_cases e : p.1 = x
    · rw [if_pos e, if_pos (by rw [h.1, e])]
      exact ⟨h.1, hv⟩
    · rw [if_neg e, if_neg (by rw [h.1]; exact fun z => e (Sum.inr.inj z))]
      exact h
theorem DR.put {l : NL} {kvs : List (Key × V)} (h : Paired (DR K H) l kvs) {x : Str} {d : Dt} {v : V} (hv : Den K H d v) : Paired (DR K H) (putL l x d) (putK kvs (.inr x) v) := by
  unfold putL putK
  rw [DR.any h x]
  split
  · exact DR.repl h hv
  · exact DR.app h (.cons ⟨rfl, hv⟩ .nil)
theorem DR.len {l : NL} {kvs : List (Key × V)} (h : Paired (DR K H) l kvs) : kvs.length = l.length := by
  induction h with
  | nil => rfl
  | cons h t ih => rw [List.length_cons, List.length_cons, ih]
/-- a dict from names to data -/
def DD (K : PySem.W.Frag) (H : Hp) (a : Addr) (l : NL) : Prop := ∃ kvs, H a = some (.dK kvs) ∧ Paired (DR K H) l kvs
theorem DD.mono {a : Addr} {l : NL} (h : DD K H a l) (e : ExT K H H') (ha : H' a = H a) : DD K H' a l := by
  obtain ⟨kvs, h1, h2⟩ := h
  exact ⟨kvs, ha.trans h1, DR.mono e h2⟩
theorem DD.same {a : Addr} {l : NL} (h : DD K H a l) (e : Same H H') : DD K H' a l := by
  obtain ⟨kvs, h1, h2⟩ := h
  exact ⟨kvs, e _ _ h1, DR.mono (Same.ext e) h2⟩
theorem DD.get {a : Addr} {l : NL} {x : Str} {d : Dt} (h : DD K H a l) (e : getL l x = some d) : ∃ v, DGet H a (.str x) (some v) ∧ Den K H d v := by
  obtain ⟨kvs, h1, h2⟩ := h
  rcases DR.get h2 x with ⟨z, _⟩ | ⟨d', v, z, y, dv⟩
  · rw [z] at e; cases e
  · rw [z] at e
    obtain rfl := Option.some.inj e
    refine ⟨v, ?_, dv⟩
    rw [← y]
    exact DGet.k (k := .inr x) h1
theorem DD.no {a : Addr} {l : NL} {x : Str} (h : DD K H a l) (e : getL l x = none) : DGet H a (.str x) none := by
  obtain ⟨kvs, h1, h2⟩ := h
  rcases DR.get h2 x with ⟨z, y⟩ | ⟨d', v, z, y, dv⟩
  · rw [← y]
    exact DGet.k (k := .inr x) h1
  · rw [z] at e; cases e
theorem DD.put {a : Addr} {l : NL} {x : Str} {d : Dt} {v : V} (h : DD K H a l) (hv : Den K H d v) (hz : l.length ≤ 1000) : ∃ kvs, DPut H a (.str x) v (upd H a (.dK kvs)) ∧ DD K (upd H a (.dK kvs)) a (putL l x d) := by
  obtain ⟨kvs, h1, h2⟩ := h
  have ln := DR.len h2
  refine ⟨putK kvs (.inr x) v, DPut.k (k := .inr x) h1 (szlt (by omega)), _, upd_same, ?_⟩
  exact DR.mono (ext_upd h1 rfl) (DR.put h2 hv)
theorem DD.new {p : Addr} : DD K (upd H p (.dK [])) p [] := ⟨[], upd_same, .nil⟩
theorem DD.at {a : Addr} {l : NL} (h : DD K H a l) : ∃ kvs, H a = some (.dK kvs) ∧ kvs.length = l.length := by
  obtain ⟨kvs, h1, h2⟩ := h
  exact ⟨kvs, h1, DR.len h2⟩
theorem DD.copy {p : Addr} {l : NL} {kvs : List (Key × V)} (h : Paired (DR K H) l kvs) (hp : H p = none) : DD K (upd H p (.dK kvs)) p l := ⟨kvs, upd_same, DR.mono (Same.ext (same_new hp)) h⟩
theorem DD.ext {a : Addr} {l : NL} {kvs : List (Key × V)} (h : DD K H a l) : ExT K H (upd H a (.dK kvs)) := by
  obtain ⟨k0, h1, _⟩ := h
  exact ext_upd h1 rfl
end
/-! programs -/
inductive Op where | plus | minus | times
deriving DecidableEq
def Op.str : Op → Str
  | .plus => "plus"
  | .minus => "minus"
  | .times => "times"
structure Kd where
  both : Bool
  k : Nat
def Kd.d (k : Kd) : Dt := .t [.s (if k.both then "both" else "up"), .i k.k]
def Kd.ok (k : Kd) : Bool := decide (1 ≤ k.k ∧ k.k ≤ 30)
structure Stm where
  op : Op
  name : Str
  kd : Kd
  fac : Int
  one : Str
  other : Str
def Stm.mid (s : Stm) : Dt := if s.op = .times then .i s.fac else .s s.one
def Stm.d (s : Stm) : Dt := .t [.s s.op.str, .s s.name, s.kd.d, s.mid, .s s.other]
structure Pg where
  ins : List (Str × Kd)
  facts : List (Str × Str)
  body : List Stm
  outs : List Str
def inD (p : Str × Kd) : Dt := .t [.s p.1, p.2.d]
def ftD (p : Str × Str) : Dt := .t [.s p.1, .s p.2]
def Pg.insD (p : Pg) : Dt := .t (p.ins.map inD)
def Pg.factsD (p : Pg) : Dt := .t (p.facts.map ftD)
def bodyD (b : List Stm) : Dt := .t (b.map Stm.d)
def Pg.outsD (p : Pg) : Dt := .t (p.outs.map Dt.s)
def Pg.d (p : Pg) : Dt := .t [p.insD, p.factsD, bodyD p.body, p.outsD]
def letters : Str := "abcdefghijklmnopqrstuvwxyz"
def okName (x : Str) : Bool := decide (1 ≤ x.cps.size ∧ x.cps.size ≤ 8) && !(["in", "fact", "if", "else", "end", "out"] : List Str).contains x && x.cps.toList.all (fun c => letters.cps.toList.contains c)
def okBody : List Str → List Stm → Bool
  | _, [] => true
  | known, s :: r => okName s.name && !known.contains s.name && s.kd.ok && (if s.op = .times then decide (-12 ≤ s.fac ∧ s.fac ≤ 12) else known.contains s.one) && known.contains s.other && okBody (known ++ [s.name]) r
def inNames (p : Pg) : List Str := p.ins.map (·.1)
def bodyNames (b : List Stm) : List Str := b.map (·.name)
def ftLt (p q : Str × Str) : Prop := PySem.W.dataLt (ftD p).py (ftD q).py = true
structure Pg.Ok (p : Pg) : Prop where
  in1 : 1 ≤ p.ins.length
  in2 : p.ins.length ≤ 6
  nm : ∀ q ∈ p.ins, okName q.1 = true ∧ q.2.ok = true
  nd : (inNames p).Nodup
  f1 : p.facts.length ≤ 6
  f2 : ∀ q ∈ p.facts, q.1 ∈ inNames p ∧ q.2 ∈ inNames p ∧ q.1 ≠ q.2
  f3 : ∀ i, i + 1 < p.facts.length → ftLt (p.facts.getD i ("", "")) (p.facts.getD (i + 1) ("", ""))
  b1 : p.body.length ≤ 24
  b2 : okBody (inNames p) p.body = true
  o1 : 1 ≤ p.outs.length
  o2 : p.outs.length ≤ 4
  o3 : ∀ x ∈ p.outs, x ∈ inNames p ++ bodyNames p.body
end K28
end
section
set_option Elab.async false
set_option linter.all false
set_option maxRecDepth 100000
set_option maxHeartbeats 4000000
namespace K28
open PySem L2
section
variable {P : Program} {w : World} {K : PySem.W.Frag} {mg : Str → Option Value} {base : Heap}
/-! is_integer -/
theorem sc_is_integer : FnScope ["thing"] ["thing"] (defScope (top 13)) := ⟨rfl, rfl, rfl, by decide +kernel, rfl, by decide +kernel, by decide +kernel⟩
def sp_is_integer : Sp := fun vs H Q _ => ∃ i : Int, vs = [.int i] ∧ Q (.bl true) H
theorem ok_is_integer (T : Tx K mg) : FnOk P w K mg base CX0 1 227 (fdA K 227) ["thing"] sp_is_integer := by
  refine (f_is_integer T).ok sc_is_integer (fun vs H Q E h => ?_) (fun cdv A outer s H vs Q E hr h => ⟨_, PSs.nox (pss_one (ps_ret (pe_and (pe_callB (k_isi K) (by rfl) (free_isinstance T) (by decide +kernel) (pa_cons (pv 0) (pa_cons (pe_bltn (v := .ty "int") (by rfl) (free_int T) (by decide +kernel) rfl) pa_nil))) (pe_one (pe_not (pe_callB (k_isi K) (by rfl) (free_isinstance T) (by decide +kernel) (pa_cons (pv 0) (pa_cons (pe_bltn (v := .ty "bool") (by rfl) (free_bool T) (by decide +kernel) rfl) pa_nil)))))))), ?_⟩)
  · obtain ⟨i, rfl, _⟩ := h; rfl
  · obtain ⟨i, rfl, q⟩ := h
    refine ⟨_, rfl, use_isi (.base (.int i)) (by decide +kernel) ⟨true, rfl, iteT ?_⟩⟩
    exact ⟨_, rfl, use_isi (.base (.int i)) (by decide +kernel) ⟨false, rfl, q⟩⟩
/-! is_between -/
theorem sc_is_between : FnScope ["thing", "least", "most"] ["thing", "least", "most"] (defScope (top 14)) := ⟨rfl, rfl, rfl, by decide +kernel, rfl, by decide +kernel, by decide +kernel⟩
def sp_is_between : Sp := fun vs H Q _ => ∃ i a b : Int, vs = [.int i, .int a, .int b] ∧ Q (.bl (decide (a ≤ i ∧ i ≤ b))) H
theorem ok_is_between (T : Tx K mg) : FnOk P w K mg base CX0 2 234 (fdA K 234) ["thing", "least", "most"] sp_is_between := by
  refine (f_is_between T).ok sc_is_between (fun vs H Q E h => ?_) (fun cdv A outer s H vs Q E hr h => ⟨_, PSs.nox (pss_one (ps_ret (pe_and (pe_call (ok_is_integer T) (hr.mono (by decide)) (by rfl) (g_is_integer T) (f_is_integer T).kp (b_is_integer T) .nil pass0 (pa_cons (pv 0) pa_nil)) (pe_one (pe_chain op_le op_le (pv 1) (pv 0) (pv 2)))))), ?_⟩)
  · obtain ⟨i, a, b, rfl, _⟩ := h; rfl
  · obtain ⟨i, a, b, rfl, q⟩ := h
    refine ⟨_, rfl, i, rfl, true, rfl, iteT ⟨_, rfl, _, rfl, _, _, rfl, rfl, _, rfl, ite2 (fun c => ⟨_, rfl, _, _, rfl, rfl, ?_⟩) (fun c => ?_)⟩⟩
    · have c1 : a ≤ i := of_decide_eq_true c
      rw [show decide (a ≤ i ∧ i ≤ b) = decide (i ≤ b) by simp [c1]] at q
      exact q
    · have c1 : ¬ a ≤ i := fun x => c (decide_eq_true x)
      rw [show decide (a ≤ i ∧ i ≤ b) = false by simp [c1]] at q
      exact q
/-! is_row_of -/
theorem sc_is_row_of : FnScope ["width", "thing", "item"] ["width", "thing"] (defScope (top 15)) := ⟨rfl, rfl, rfl, by decide +kernel, rfl, by decide +kernel, by decide +kernel⟩
def sp_is_row_of (K : PySem.W.Frag) : Sp := fun vs H Q _ => ∃ (n : Int) (v : V) (ws : List Int), vs = [.int n, v] ∧ Den K H (wd ws) v ∧ ws.length ≤ 100000 ∧ ∀ H', Same H H' → Q (.bl (decide ((ws.length : Int) = n))) H'
theorem ok_is_row_of (T : Tx K mg) : FnOk P w K mg base CX0 2 239 (fdA K 239) ["width", "thing"] (sp_is_row_of K) := by
  refine (f_is_row_of T).ok sc_is_row_of (fun vs H Q E h => ?_) (fun cdv A outer s H vs Q E hr h => ⟨_, PSs.nox (pss_one (ps_ret (pe_and (pe_callB (k_isi K) (by rfl) (free_isinstance T) (by decide +kernel) (pa_cons (pv 1) (pa_cons (pe_bltn (v := .ty "tuple") (by rfl) (free_tuple T) (by decide +kernel) rfl) pa_nil))) (pe_and (pe_cmpR op_eq (pe_callB (k_len K) (by rfl) (free_len T) (by decide +kernel) (pa_cons (pv 1) pa_nil)) (pv 0) (nomark _)) (pe_one (pe_callB (k_all K rfl) (by rfl) (free_all T) (by decide +kernel) (pa_cons (pe_lc (own := [("item", 2)]) rfl sc_is_row_of.nd (k_pit K (pv 1)) (blkOk_by (N := ["width", "thing", "item"]) (sc := (defScope (top 15))) (by decide +kernel)) (fun _ _ _ _ _ => (pg_name (i := 2) sc_is_row_of.nd rfl (.inl rfl) (hf := (.inr rfl)))) (fun _ _ _ _ _ => pts_nil) (fun _ _ _ _ _ => (pe_call (ok_is_integer T) (hr.mono (by decide)) (by rfl) (g_is_integer T) (f_is_integer T).kp (b_is_integer T) .nil pass0 (pa_cons (pv 2) pa_nil)))) pa_nil))))))), ?_⟩)
  · obtain ⟨n, v, ws, rfl, _⟩ := h; rfl
  · obtain ⟨n, v, ws, rfl, hv, hz, q⟩ := h
    obtain ⟨a, rfl, hT⟩ := hv.wd
    refine ⟨_, rfl, use_isi (ty_tup hT) (by decide +kernel) ⟨true, rfl, iteT ?_⟩⟩
    refine ⟨_, rfl, a, _, rfl, .inr hT, _, rfl, rfl, _, rfl, ?_⟩
    rw [List.length_map]
    by_cases c : (ws.length : Int) = n
    · subst c
      rw [decide_eq_true rfl]
      refine iteT ⟨_, rfl, a, rfl, ⟨_, hT⟩, fun D nD => lc_tupB nD hT (denL_ints ws) (fun _ => true) (by simpa using hz) (fun _ => rfl) (fun d x Q' H2 hd s2 dx q' => ?_) (fun H' s2 eD => ?_)⟩
      · obtain ⟨i, _, rfl⟩ := List.mem_map.mp hd
        obtain rfl : x = .int i := dx
        exact ⟨_, rfl, i, rfl, q' _ (Same.refl _)⟩
      · refine ⟨D, _, rfl, SqL.of eD, ?_⟩
        have q2 := q H' s2
        rw [decide_eq_true rfl] at q2
        have e : ((List.map Dt.i ws).map (fun _ => true)).all id = true := by simp
        rw [e]
        exact q2
    · rw [decide_eq_false (fun e => c (V.int.inj e))]
      refine iteF ?_
      have q2 := q H (Same.refl H)
      rw [decide_eq_false c] at q2
      exact q2
/-! value_at -/
theorem sc_value_at : FnScope ["wall", "point", "one", "other"] ["wall", "point"] (defScope (top 16)) := ⟨rfl, rfl, rfl, by decide +kernel, rfl, by decide +kernel, by decide +kernel⟩
def sp_value_at (K : PySem.W.Frag) : Sp := fun vs H Q _ => ∃ (u v : V) (xs ys : List Int), vs = [u, v] ∧ Den K H (wd xs) u ∧ Den K H (wd ys) v ∧ xs.length ≤ 1000 ∧ Big xs ∧ Big ys ∧ ∀ H', Same H H' → Q (.int (dot xs ys)) H'
theorem ok_value_at (T : Tx K mg) : FnOk P w K mg base CX0 1 244 (fdA K 244) ["wall", "point"] (sp_value_at K) := by
  refine (f_value_at T).ok sc_value_at (fun vs H Q E h => ?_) (fun cdv A outer s H vs Q E hr h => ⟨_, PSs.nox (pss_one (ps_ret (pe_callB (k_sum K rfl) (by rfl) (free_sum T) (by decide +kernel) (pa_cons (pe_lc (own := [("one", 2), ("other", 3)]) rfl sc_value_at.nd (k_zip K false false (by rfl) (free_zip T) (pa_cons (pv 0) (pa_cons (pv 1) pa_nil))) (blkOk_by (N := ["wall", "point", "one", "other"]) (sc := (defScope (top 16))) (by decide +kernel)) (fun _ _ _ _ _ => (k_tgt K 2 rfl (pgs_cons (pg_name (i := 2) sc_value_at.nd rfl (.inl rfl) (hf := (.inr rfl))) (pgs_cons (pg_name (i := 3) sc_value_at.nd rfl (.inl rfl) (hf := (.inr rfl))) pgs_nil)))) (fun _ _ _ _ _ => pts_nil) (fun _ _ _ _ _ => (pe_op op_mulW (pv 2) (pv 3)))) pa_nil)))), ?_⟩)
  · obtain ⟨u, v, xs, ys, rfl, _⟩ := h; rfl
  · obtain ⟨u, v, xs, ys, rfl, hu, hv, hz, b1, b2, q⟩ := h
    obtain ⟨a, rfl, hA⟩ := hu.wd
    obtain ⟨b, rfl, hB⟩ := hv.wd
    refine ⟨_, rfl, _, rfl, a, b, _, _, rfl, hA, hB, fun D nD => lc_zipI nD hA hB (fun x y => x * y) (by omega) (fun _ _ => rfl) (fun x y Q' H2 hx hy s2 q' => ?_) (fun H' s2 eD => ?_)⟩
    · exact ⟨_, rfl, _, rfl, x, y, rfl, rfl, big_mul (b1 x hx) (b2 y hy), q'⟩
    · exact ⟨D, _, rfl, SqL.of eD, q H' s2⟩
/-! bound_wall -/
theorem sc_bound_wall : FnScope ["width"] ["width"] (defScope (top 17)) := ⟨rfl, rfl, rfl, by decide +kernel, rfl, by decide +kernel, by decide +kernel⟩
def sp_bound_wall (K : PySem.W.Frag) : Sp := fun vs H Q _ => ∃ n : Nat, vs = [.int (n : Int)] ∧ 1 ≤ n ∧ n ≤ 100 ∧ ∀ v H', Same H H' → Den K H' (wd (bwall n)) v → Q v H'
theorem rep_one (k : Nat) (v : V) : (List.replicate k [v]).flatten = List.replicate k v := by
  induction k with
  | zero => rfl
  | succ k ih => rw [List.replicate_succ, List.flatten_cons, ih]; rfl
theorem ok_bound_wall (T : Tx K mg) : FnOk P w K mg base CX0 1 251 (fdA K 251) ["width"] (sp_bound_wall K) := by
  refine (f_bound_wall T).ok sc_bound_wall (fun vs H Q E h => ?_) (fun cdv A outer s H vs Q E hr h => ⟨_, PSs.nox (pss_one (ps_ret (pe_op (k_cat K) (pe_op (k_rep K) (pe_tup (pa_cons pe_int pa_nil)) (pe_op op_sub (pv 0) pe_int)) (pe_tup (pa_cons pe_int pa_nil))))), ?_⟩)
  · obtain ⟨n, rfl, _⟩ := h; rfl
  · obtain ⟨n, rfl, h1, h2, q⟩ := h
    refine ⟨szl (by decide), fun p hp => ⟨_, rfl, _, _, rfl, rfl, use_rep (.inl (.inl upd_same)) (by simp) (by omega) (by omega) (by decide) fun c H2 s2 hc => ?_⟩⟩
    refine ⟨szl (by decide), fun p2 hp2 => use_cat (Same.ext (same_new hp2) _ _ hc) (.inl (.inl upd_same)) ?_ fun d H3 s3 hd => ?_⟩
    · rw [rep_one, List.length_replicate]; show _ + 1 ≤ _; omega
    · refine q _ _ ((same_new hp).trans (s2.trans ((same_new hp2).trans s3))) (den_wd ?_)
      rw [rep_one] at hd
      have e : (bwall n).map V.int = List.replicate ((n : Int) - 1).toNat (V.int 0) ++ [V.int 1] := by
        unfold bwall
        rw [List.map_append, List.map_replicate, show ((n : Int) - 1).toNat = n - 1 by omega]
        rfl
      rw [e]
      exact hd
/-! are_weights -/
theorem sc_are_weights : FnScope ["many", "thing", "item"] ["many", "thing"] (defScope (top 23)) := ⟨rfl, rfl, rfl, by decide +kernel, rfl, by decide +kernel, by decide +kernel⟩
def sp_are_weights (K : PySem.W.Frag) : Sp := fun vs H Q _ => ∃ (n : Int) (v : V) (ws : List Int), vs = [.int n, v] ∧ Den K H (wd ws) v ∧ ws.length ≤ 1000 ∧ ∀ H', Same H H' → Q (.bl (decide ((ws.length : Int) = n) && ws.all fun x => decide (0 ≤ x))) H'
def dint : Dt → Int
  | .i x => x
  | _ => 0
theorem ok_are_weights (T : Tx K mg) : FnOk P w K mg base CX0 3 283 (fdA K 283) ["many", "thing"] (sp_are_weights K) := by
  refine (f_are_weights T).ok sc_are_weights (fun vs H Q E h => ?_) (fun cdv A outer s H vs Q E hr h => ⟨_, PSs.nox (pss_one (ps_ret (pe_and (pe_call (ok_is_row_of T) (hr.mono (by decide)) (by rfl) (g_is_row_of T) (f_is_row_of T).kp (b_is_row_of T) .nil pass0 (pa_cons (pv 0) (pa_cons (pv 1) pa_nil))) (pe_one (pe_callB (k_all K rfl) (by rfl) (free_all T) (by decide +kernel) (pa_cons (pe_lc (own := [("item", 2)]) rfl sc_are_weights.nd (k_pit K (pv 1)) (blkOk_by (N := ["many", "thing", "item"]) (sc := (defScope (top 23))) (by decide +kernel)) (fun _ _ _ _ _ => (pg_name (i := 2) sc_are_weights.nd rfl (.inl rfl) (hf := (.inr rfl)))) (fun _ _ _ _ _ => pts_nil) (fun _ _ _ _ _ => (pe_cmpR op_ge (pv 2) pe_int (nomark _)))) pa_nil)))))), ?_⟩)
  · obtain ⟨n, v, ws, rfl, _⟩ := h; rfl
  · obtain ⟨n, v, ws, rfl, hv, hz, q⟩ := h
    obtain ⟨a, rfl, hT⟩ := id hv.wd
    refine ⟨_, rfl, _, rfl, n, _, ws, rfl, hv, by omega, fun H1 s1 => ⟨_, rfl, ?_⟩⟩
    by_cases c : (ws.length : Int) = n
    · rw [decide_eq_true c] at q ⊢
      have hT1 := Same.ext s1 _ _ hT
      refine iteT ⟨_, rfl, a, rfl, ⟨_, hT1⟩, fun D nD => lc_tupB nD hT1 (denL_ints ws) (fun d => decide (0 ≤ dint d)) (by simp; omega) (fun _ => rfl) (fun d x Q' H2 hd s2 dx q' => ?_) (fun H' s2 eD => ?_)⟩
      · obtain ⟨i, _, rfl⟩ := List.mem_map.mp hd
        obtain rfl : x = .int i := dx
        exact ⟨_, rfl, _, _, rfl, rfl, q' _ (Same.refl _)⟩
      · refine ⟨D, _, rfl, SqL.of eD, ?_⟩
        have q2 := q H' (s1.trans s2)
        have e : ((List.map Dt.i ws).map (fun d => decide (0 ≤ dint d))).all id = (ws.all fun x => decide (0 ≤ x)) := by
          rw [List.all_map, List.all_map]; rfl
        rw [e]
        exact q2
    · rw [decide_eq_false c] at q ⊢
      exact iteF (q H1 s1)
end
end K28
end
section
set_option Elab.async false
set_option linter.all false
set_option maxRecDepth 100000
set_option maxHeartbeats 4000000
set_option exponentiation.threshold 2000
namespace K28
open PySem L2
/-! the table as it stands in the heap -/
def FI (L : Nat) (f : Nat → Int) : List Int := (List.range L).map f
def FL (L : Nat) (f : Nat → Int) : List V := (FI L f).map V.int
theorem fl_get {L j : Nat} {f : Nat → Int} (h : j < L) : (FL L f)[j]? = some (.int (f j)) := by
  unfold FL FI
  rw [List.map_map, List.getElem?_map, List.getElem?_range h]; rfl
theorem fl_len {L : Nat} {f : Nat → Int} : (FL L f).length = L := by unfold FL FI; simp
theorem fl_at {L j : Nat} {f : Nat → Int} (h : j < L) : atI (FL L f) (j : Int) = some (.int (f j)) := atI_nat (fl_get h)
theorem fl_last {L : Nat} {f : Nat → Int} : atI (FL (L + 1) f) (-1) = some (.int (f L)) := by
  have e : FL (L + 1) f = FL L f ++ [.int (f L)] := by unfold FL FI; rw [List.range_succ]; simp
  rw [e]; exact atI_last _ _
theorem fi_zip {L : Nat} {f g : Nat → Int} {F : Int → Int → Int} : List.zipWith F (FI L f) (FI L g) = FI L (fun j => F (f j) (g j)) := by
  unfold FI
  rw [List.zipWith_map_left, List.zipWith_map_right]
  exact (List.zipWith_self).trans rfl
def Bnd (S : Tb) : Prop := (∀ i j, (S.T i j).natAbs < 2 ^ 500) ∧ (∀ j, (S.c j).natAbs < 2 ^ 500) ∧ S.D.natAbs < 2 ^ 500
abbrev CT : Addr := 211
def tFs (R : Nat) (pr pc pb : Addr) (D : Int) : List (Str × V) := [("real", .int (R : Int)), ("rows", .ref pr), ("cost", .ref pc), ("basis", .ref pb), ("divisor", .int D)]
structure TabAt (H : Hp) (x pb : Addr) (n R : Nat) (S : Tb) (dx pr pc : Addr) (vs : List V) : Prop where
  ins : H x = some (.ins CT dx (tFs R pr pc pb S.D))
  rows : H pr = some (.lst vs)
  len : vs.length = n
  row : ∀ i, i < n → ∃ a, vs[i]? = some (.ref a) ∧ a ≠ pb ∧ H a = some (.lst (FL (R + n + 1) (S.T i)))
  cost : H pc = some (.lst (FL (R + n + 1) S.c))
  basis : H pb = some (.lst (FL n (fun k => (S.B k : Int))))
  nr : pr ≠ pb
  nc : pc ≠ pb
theorem TabAt.mono {H H' : Hp} {x pb dx pr pc : Addr} {n R : Nat} {S : Tb} {vs : List V} (t : TabAt H x pb n R S dx pr pc vs) (e : Same H H') : TabAt H' x pb n R S dx pr pc vs :=
  ⟨e _ _ t.ins, e _ _ t.rows, t.len, fun i hi => by obtain ⟨a, h1, h2, h3⟩ := t.row i hi; exact ⟨a, h1, h2, e _ _ h3⟩, e _ _ t.cost, e _ _ t.basis, t.nr, t.nc⟩
theorem int_fdiv {a b : Int} : a / b = a / b := rfl
section
variable {P : Program} {w : World} {K : PySem.W.Frag} {mg : Str → Option Value} {base : Heap}
/-! Table.less -/
theorem sc_Tless : FnScope ["self", "row", "own", "at", "head", "many", "one", "other"] ["self", "row", "own", "at", "head"] (defScope (inClass (top 10) 3)) := ⟨rfl, rfl, rfl, by decide +kernel, rfl, by decide +kernel, by decide +kernel⟩
def sp_Tless : Sp := fun vs H Q _ => ∃ (x dx a b : Addr) (fs : List (Str × V)) (p L : Nat) (f g : Nat → Int) (h D : Int), vs = [.ref x, .ref a, .ref b, .int (p : Int), .int h] ∧ H x = some (.ins CT dx fs) ∧ fs.lookup ("divisor" : Str) = some (V.int D) ∧
  H a = some (.lst (FL L f)) ∧ H b = some (.lst (FL L g)) ∧ p < L ∧ L ≤ 1000 ∧ 0 < D ∧ D.natAbs < 2 ^ 500 ∧ h.natAbs < 2 ^ 500 ∧ (∀ j, (f j).natAbs < 2 ^ 500) ∧ (∀ j, (g j).natAbs < 2 ^ 500) ∧
  ∀ c H', Same H H' → H c = none → H' c = some (.lst (FL L (fun j => (h * f j - f p * g j) / D))) → Q (.ref c) H'
theorem lt500 {x : Int} (h : x.natAbs < 2 ^ 500) : x.natAbs < 2 ^ 1000 := by
  have e : (2 : Nat) ^ 500 ≤ 2 ^ 1000 := Nat.pow_le_pow_right (by decide) (by decide)
  omega
theorem mul500 {x y : Int} (hx : x.natAbs < 2 ^ 500) (hy : y.natAbs < 2 ^ 500) : CMulW x y := big_mul (lt500 hx) (lt500 hy)
theorem ok_Tless (T : Tx K mg) : FnOk P w K mg base CX0 1 201 (fdA K 201) ["self", "row", "own", "at", "head"] sp_Tless := by
  refine (f_Tless T).ok sc_Tless (fun vs H Q E h => ?_) (fun cdv A outer s H vs Q E hr h => ⟨_, PSs.nox (pss_cons (ps_set (i := 5) sc_Tless.nd rfl (.inr rfl) (pe_ix (k_ixL K) (pv 1) (pv 3) (fun _ _ => rfl)))
  (pss_one (ps_ret (pe_lc (own := [("one", 6), ("other", 7)]) rfl sc_Tless.nd (k_zip K true true (by rfl) (free_zip T) (pa_cons (pv 1) (pa_cons (pv 2) pa_nil))) (blkOk_by (N := ["self", "row", "own", "at", "head", "many", "one", "other"]) (sc := (defScope (inClass (top 10) 3))) (by decide +kernel)) (fun _ _ _ _ _ => (k_tgt K 2 rfl (pgs_cons (pg_name (i := 6) sc_Tless.nd rfl (.inl rfl) (hf := (.inr rfl))) (pgs_cons (pg_name (i := 7) sc_Tless.nd rfl (.inl rfl) (hf := (.inr rfl))) pgs_nil)))) (fun _ _ _ _ _ => pts_nil) (fun _ _ _ _ _ => (pe_op op_fdivW (pe_op op_sub (pe_op op_mulW (pv 4) (pv 6)) (pe_op op_mulW (pv 5) (pv 7))) (k_fld K (pv 0) rfl))))))), ?_⟩)
  · obtain ⟨x, dx, a, b, fs, p, L, f, g, h, D, rfl, _⟩ := h; rfl
  · obtain ⟨x, dx, a, b, fs, p, L, f, g, h, D, rfl, hx, hD, ha, hb, hp, hL, D0, b1, b2, b3, b4, q⟩ := h
    refine ⟨_, rfl, _, rfl, a, _, _, _, rfl, rfl, SqL.of ha, fl_at hp, ?_⟩
    refine ⟨_, rfl, _, rfl, a, b, _, _, rfl, SqL.of ha, SqL.of hb, fun N nN => lc_zipI nN (SqL.of ha) (SqL.of hb) (fun u v => (h * u - f p * v) / D) ?_ (fun _ _ => rfl) (fun u v Q' H2 hu hv s2 q' => ?_) (fun H' s2 eD => ?_)⟩
    · unfold FI; simp; omega
    · obtain ⟨j, _, rfl⟩ := List.mem_map.mp hu
      obtain ⟨l, _, rfl⟩ := List.mem_map.mp hv
      exact ⟨_, rfl, _, rfl, _, _, rfl, rfl, mul500 b2 (b3 j), _, rfl, _, rfl, _, _, rfl, rfl, mul500 (b3 p) (b4 l), _, _, rfl, rfl, _, rfl, x, _, dx, fs, _, rfl, s2 _ _ hx, T.cls, T.no_divisor, hD, _, _, rfl, rfl, wide_div D0 b1 (by decide) (by decide), q'⟩
    · refine q N H' s2 nN ?_
      rw [eD, fi_zip]
      rfl
/-! Table.entering -/
theorem sc_Tentering : FnScope ["self", "at"] ["self"] (defScope (inClass (top 10) 4)) := ⟨rfl, rfl, rfl, by decide +kernel, rfl, by decide +kernel, by decide +kernel⟩
def oV : Option Nat → V
  | none => .non
  | some p => .int (p : Int)
def sp_Tent : Sp := fun vs H Q _ => ∃ (x pb dx pr pc : Addr) (us : List V) (n R : Nat) (S : Tb), vs = [.ref x] ∧ TabAt H x pb n R S dx pr pc us ∧ R ≤ 1000 ∧ Q (oV (enter R S)) H
theorem enter_go {S : Tb} {i : Nat} : (List.range (i + 1)).find? (fun p => decide (0 < S.c p)) = ((List.range i).find? (fun p => decide (0 < S.c p))).or (if 0 < S.c i then some i else none) := by
  rw [List.range_succ, List.find?_append]
  congr 1
  by_cases h : 0 < S.c i
  · simp [h]
  · simp [h]
theorem enter_mono {S : Tb} {i : Nat} : ∀ {m : Nat}, (List.range i).find? (fun p => decide (0 < S.c p)) = none → 0 < S.c i → i < m → (List.range m).find? (fun p => decide (0 < S.c p)) = some i
  | 0, _, _, h => absurd h (Nat.not_lt_zero _)
  | m + 1, h1, h2, h3 => by
    rw [enter_go]
    by_cases e : i = m
    · subst e; rw [h1, if_pos h2]; rfl
    · rw [enter_mono h1 h2 (by omega)]; rfl
theorem ok_Tentering (T : Tx K mg) : FnOk P w K mg base CX0 1 208 (fdA K 208) ["self"] sp_Tent := by
  refine (f_Tentering T).ok sc_Tentering (fun vs H Q E h => ?_) (fun cdv A outer s H vs Q E hr h => ⟨_, PSs.nox (pss_cons (ps_for PassesOwn.never rfl (pi_range1 (by rfl) (free_range T) (pa_cons (k_fld K (pv 0) rfl) pa_nil)) (pg_name (i := 1) sc_Tentering.nd rfl (.inl rfl) (hf := (.inl rfl)))
    (pss_one (ps_if (pt_cmpR op_gt (pe_ix (k_ixL K) (k_fld K (pv 0) rfl) (pv 1) (fun _ _ => rfl)) pe_int (nomark _)) (pss_one (ps_ret (pv 1))) pss_nil)))
  (pss_one (ps_ret pe_non))), ?_⟩)
  · obtain ⟨x, pb, dx, pr, pc, us, n, R, S, rfl, _⟩ := h; rfl
  · obtain ⟨x, pb, dx, pr, pc, us, n, R, S, rfl, t, hR, q⟩ := h
    refine ⟨_, rfl, x, _, dx, _, _, rfl, t.ins, T.cls, T.no_real, rfl, (R : Int), rfl, by omega, by omega, ?_⟩
    refine for_range (fun i σ H' => H' = H ∧ (∃ o, σ = [some (.ref x), o]) ∧ (List.range i).find? (fun p => decide (0 < S.c p)) = none) ⟨rfl, ⟨_, rfl⟩, rfl⟩ ?_ ?_
    · rintro i σ H' hi ⟨rfl, ⟨o, rfl⟩, hn⟩
      have e0 : ((0 : Int) + (i : Int)) = (i : Int) := Int.zero_add _
      refine ⟨_, rfl, x, _, dx, _, _, rfl, t.ins, T.cls, T.no_cost, rfl, _, rfl, pc, _, _, _, rfl, rfl, SqL.of t.cost, (by rw [e0]; exact fl_at (by omega)), _, _, rfl, rfl, _, rfl, ite2 (fun c => ?_) (fun c => ?_)⟩
      · have c1 : 0 < S.c i := of_decide_eq_true c
        refine ⟨_, rfl, ?_⟩
        have e := enter_mono hn c1 hi
        rw [show enter R S = some i from e] at q
        rw [e0]
        exact q
      · refine ⟨rfl, ⟨_, rfl⟩, ?_⟩
        rw [enter_go, hn, if_neg (fun z => c (decide_eq_true z))]; rfl
    · rintro σ H' ⟨rfl, ⟨o, rfl⟩, hn⟩
      rw [show enter R S = none from hn] at q
      exact q
/-! Table.leaving -/
theorem sc_Tleaving : FnScope ["self", "at", "best", "number", "row", "near", "far"] ["self", "at"] (defScope (inClass (top 10) 1)) := ⟨rfl, rfl, rfl, by decide +kernel, rfl, by decide +kernel, by decide +kernel⟩
def sp_Tlea : Sp := fun vs H Q _ => ∃ (x pb dx pr pc : Addr) (us : List V) (n R p : Nat) (S : Tb), vs = [.ref x, .int (p : Int)] ∧ TabAt H x pb n R S dx pr pc us ∧ p ≤ R + n ∧ Bnd S ∧ ∀ H', Same H H' → Q (oV (leave n R S p)) H'
theorem leave_lt {n R : Nat} {S : Tb} {p : Nat} : ∀ {i b : Nat}, (List.range i).foldl (better n R S p) none = some b → b < i
  | 0, b, h => by cases h
  | i + 1, b, h => by
    rw [List.range_succ, List.foldl_append] at h
    simp only [List.foldl_cons, List.foldl_nil] at h
    unfold better at h
    split at h
    · split at h
      · have := Option.some.inj h; omega
      · rename_i b' e
        have hb := leave_lt e
        split at h
        · have := Option.some.inj h; omega
        · have := Option.some.inj h; omega
    · have := leave_lt h; omega
theorem ok_Tleaving (T : Tx K mg) : FnOk P w K mg base CX0 1 191 (fdA K 191) ["self", "at"] sp_Tlea := by
  refine (f_Tleaving T).ok sc_Tleaving (fun vs H Q E h => ?_) (fun cdv A outer s H vs Q E hr h => ⟨_, PSs.nox (pss_cons (ps_set (i := 2) sc_Tleaving.nd rfl (.inl rfl) pe_non)
  (pss_cons (ps_for PassesOwn.never rfl (k_enum K true (by rfl) (free_enumerate T) (pa_cons (k_fld K (pv 0) rfl) pa_nil)) (k_tgt K 2 rfl (pgs_cons (pg_name (i := 3) sc_Tleaving.nd rfl (.inl rfl) (hf := (.inl rfl))) (pgs_cons (pg_name (i := 4) sc_Tleaving.nd rfl (.inl rfl) (hf := (.inl rfl))) pgs_nil)))
    (pss_one (ps_if (pt_cmpR op_gt (pe_ix (k_ixL K) (pv 4) (pv 1) (fun _ _ => rfl)) pe_int (nomark _)) (pss_one (ps_if (pt_cmpR op_isN (pv 2) pe_non (nomark _)) (pss_one (ps_set (i := 2) sc_Tleaving.nd rfl (.inl rfl) (pv 3))) (pss_cons (ps_par (i := 5) (j := 6) rfl sc_Tleaving.nd rfl rfl (by decide) rfl rfl (pa_cons (pe_op op_mulW (pe_ix (k_ixL K) (pv 4) (pe_un un_neg pe_int) (fun _ _ => rfl)) (pe_ix (k_ixL K) (pe_ix (k_ixL K) (k_fld K (pv 0) rfl) (pv 2) (fun _ _ => rfl)) (pv 1) (fun _ _ => rfl))) (pa_cons (pe_op op_mulW (pe_ix (k_ixL K) (pe_ix (k_ixL K) (k_fld K (pv 0) rfl) (pv 2) (fun _ _ => rfl)) (pe_un un_neg pe_int) (fun _ _ => rfl)) (pe_ix (k_ixL K) (pv 4) (pv 1) (fun _ _ => rfl))) pa_nil)) (by rfl))
  (pss_one (ps_if (PW.pt (pw_or (pt_cmpR op_lt (pv 5) (pv 6) (nomark _)) (pw_or1 (PW.pt (pw_and (pt_cmpR op_eq (pv 5) (pv 6) (nomark _)) (pw_and1 (pt_cmpR op_lt (pe_ix (k_ixL K) (k_fld K (pv 0) rfl) (pv 3) (fun _ _ => rfl)) (pe_ix (k_ixL K) (k_fld K (pv 0) rfl) (pv 2) (fun _ _ => rfl)) (nomark _)))))))) (pss_one (ps_set (i := 2) sc_Tleaving.nd rfl (.inl rfl) (pv 3))) pss_nil))))) pss_nil)))
  (pss_one (ps_ret (pv 2))))), ?_⟩)
  · obtain ⟨x, pb, dx, pr, pc, us, n, R, p, S, rfl, _⟩ := h; rfl
  · obtain ⟨x, pb, dx, pr, pc, us, n, R, p, S, rfl, t, hp, hB, q⟩ := h
    refine ⟨_, rfl, x, _, dx, _, _, rfl, t.ins, T.cls, T.no_rows, rfl, pr, us, rfl, SqL.of t.rows, ?_⟩
    refine for_it (walk_enumB (k := true) (K := K) (a := pr) (xs := us)) (fun i σ H' => Same H H' ∧ ∃ o3 o4 o5 o6, σ = [some (.ref x), some (.int (p : Int)), some (oV ((List.range i).foldl (better n R S p) none)), o3, o4, o5, o6])
      ⟨Same.refl H, _, _, _, _, rfl⟩ (fun i σ H' _ h => Same.seq h.1 (SqL.of t.rows)) ?_ ?_
    · rintro i v σ H1 H' hi ⟨s1, o3, o4, o5, o6, rfl⟩ ⟨A', y, z, rfl, nA, rfl, ey, ez⟩
      cases (Option.some.inj ey)
      rw [t.len] at hi
      obtain ⟨a, ea, na, ha⟩ := t.row i hi
      have ez2 : us[i]? = some z := ez
      rw [ez2] at ea
      cases (Option.some.inj ea)
      have s2 : Same H (upd H1 A' (.tup [.int (i : Int), .ref a])) := s1.trans (same_new nA)
      have t2 := t.mono s2
      refine g_pair (.inl (.inl upd_same)) ?_
      have hrow : ∀ k, k < n → ∃ b, us[k]? = some (.ref b) ∧ upd H1 A' (.tup [.int (i : Int), .ref a]) b = some (.lst (FL (R + n + 1) (S.T k))) := fun k hk => by
        obtain ⟨b, h1, _, h3⟩ := t2.row k hk; exact ⟨b, h1, h3⟩
      have hai : upd H1 A' (.tup [.int (i : Int), .ref a]) a = some (.lst (FL (R + n + 1) (S.T i))) := s2 _ _ ha
      have nxt : (List.range (i + 1)).foldl (better n R S p) none = better n R S p ((List.range i).foldl (better n R S p) none) i := by
        rw [List.range_succ, List.foldl_append]; rfl
      refine ⟨_, rfl, _, rfl, a, _, _, _, rfl, rfl, SqL.of hai, fl_at (by omega), _, _, rfl, rfl, _, rfl, ite2 (fun c => ?_) (fun c => ?_)⟩
      · have c1 : 0 < S.T i p := of_decide_eq_true c
        cases eb : (List.range i).foldl (better n R S p) none with
        | none =>
          refine ⟨_, rfl, rfl, _, rfl, iteT ⟨_, rfl, ?_⟩⟩
          rw [nxt, eb]
          refine ⟨s2, ?_⟩
          rw [show better n R S p none i = some i from if_pos c1]
          exact ⟨_, _, _, _, rfl⟩
        | some b =>
          have hb : b < n := by have := leave_lt eb; omega
          obtain ⟨ab, eab, hab⟩ := hrow b hb
          refine ⟨_, rfl, rfl, _, rfl, iteF ?_⟩
          have nB : better n R S p (some b) i = if S.T i (R + n) * S.T b p < S.T b (R + n) * S.T i p ∨ (S.T i (R + n) * S.T b p = S.T b (R + n) * S.T i p ∧ S.B i < S.B b) then some i else some b := if_pos c1
          have hfl : ∀ k j, k < n → j < R + n + 1 → atI (FL (R + n + 1) (S.T k)) (j : Int) = some (.int (S.T k j)) := fun k j _ hj => fl_at hj
          have m5 : ∀ k j l m, CMulW (S.T k j) (S.T l m) := fun k j l m => mul500 (hB.1 k j) (hB.1 l m)
          refine ⟨_, rfl, _, rfl, a, _, _, _, rfl, rfl, SqL.of hai, fl_last, ?_⟩
          refine ⟨_, rfl, x, _, dx, _, _, rfl, t2.ins, T.cls, T.no_rows, rfl, _, rfl, pr, _, _, _, rfl, rfl, SqL.of t2.rows, atI_nat eab, ?_⟩
          refine ⟨_, rfl, ab, _, _, _, rfl, rfl, SqL.of hab, fl_at (by omega), _, _, rfl, rfl, m5 _ _ _ _, ?_⟩
          refine ⟨_, rfl, x, _, dx, _, _, rfl, t2.ins, T.cls, T.no_rows, rfl, _, rfl, pr, _, _, _, rfl, rfl, SqL.of t2.rows, atI_nat eab, ?_⟩
          refine ⟨_, rfl, ab, _, _, _, rfl, rfl, SqL.of hab, fl_last, ?_⟩
          refine ⟨_, rfl, _, rfl, a, _, _, _, rfl, rfl, SqL.of hai, fl_at (by omega), _, _, rfl, rfl, m5 _ _ _ _, ?_⟩
          refine ⟨_, _, rfl, ?_⟩
          rw [nxt, eb, nB]
          have last : ∀ {A B : Prop} (c : Bool), (c = true → A) → (c = false → B) → if c = true then A else B := fun c h1 h2 => by
            cases c
            · exact iteF (h2 rfl)
            · exact iteT (h1 rfl)
          by_cases l : S.T i (R + n) * S.T b p < S.T b (R + n) * S.T i p
          · rw [if_pos (.inl l)]
            exact ⟨_, rfl, _, rfl, _, _, rfl, rfl, _, rfl, last _ (fun _ => iteT ⟨_, rfl, s2, _, _, _, _, rfl⟩) (fun l' => absurd l (of_decide_eq_false l'))⟩
          · refine ⟨_, rfl, _, rfl, _, _, rfl, rfl, _, rfl, last _ (fun l' => absurd (of_decide_eq_true l') l) (fun _ => ?_)⟩
            by_cases e : S.T i (R + n) * S.T b p = S.T b (R + n) * S.T i p
            · refine ⟨_, rfl, _, rfl, rfl, _, rfl, last _ (fun _ => ?_) (fun l' => ?_)⟩
              · refine ⟨_, rfl, x, _, dx, _, _, rfl, t2.ins, T.cls, T.no_basis, rfl, _, rfl, pb, _, _, _, rfl, rfl, SqL.of t2.basis, fl_at hi, ?_⟩
                refine ⟨_, rfl, x, _, dx, _, _, rfl, t2.ins, T.cls, T.no_basis, rfl, _, rfl, pb, _, _, _, rfl, rfl, SqL.of t2.basis, fl_at hb, ?_⟩
                by_cases f : S.B i < S.B b
                · rw [if_pos (.inr ⟨e, f⟩)]
                  refine ⟨_, _, rfl, rfl, _, rfl, last _ (fun _ => ⟨_, rfl, s2, _, _, _, _, rfl⟩) (fun l' => absurd (of_decide_eq_false l') (fun z => z (by omega)))⟩
                · rw [if_neg (fun z => z.elim l (fun z => f z.2))]
                  refine ⟨_, _, rfl, rfl, _, rfl, last _ (fun l' => absurd (of_decide_eq_true l') (by omega)) (fun _ => ⟨s2, _, _, _, _, rfl⟩)⟩
              · exact absurd (of_decide_eq_false l') (fun z => z (congrArg V.int e))
            · rw [if_neg (fun z => z.elim l (fun z => e z.1))]
              refine ⟨_, rfl, _, rfl, rfl, _, rfl, last _ (fun l' => ?_) (fun _ => iteF ⟨s2, _, _, _, _, rfl⟩)⟩
              exact absurd (V.int.inj (of_decide_eq_true l')) e
      · rw [nxt]
        refine ⟨s2, ?_⟩
        rw [show better n R S p ((List.range i).foldl (better n R S p) none) i = (List.range i).foldl (better n R S p) none from if_neg (fun z => c (decide_eq_true z))]
        exact ⟨_, _, _, _, rfl⟩
    · rintro σ H' ⟨s1, o3, o4, o5, o6, rfl⟩
      rw [t.len]
      exact ⟨_, rfl, q _ s1⟩
/-! Table.pivot -/
theorem sc_Tpivot : FnScope ["self", "number", "at", "own", "head", "rows", "other", "row"] ["self", "number", "at"] (defScope (inClass (top 10) 2)) := ⟨rfl, rfl, rfl, by decide +kernel, rfl, by decide +kernel, by decide +kernel⟩
theorem same_upd {H0 H : Hp} {x : Addr} {o : HO} (s : Same H0 H) (h : H0 x = none) : Same H0 (upd H x o) := fun b u e => by
  rw [upd_ne (ne_of_none e h)]; exact s b u e
theorem fl_congr {L : Nat} {f g : Nat → Int} (h : ∀ j, j < L → f j = g j) : FL L f = FL L g := by
  unfold FL FI
  congr 1
  exact List.map_congr_left fun j hj => h j (List.mem_range.mp hj)
theorem fl_set {L j : Nat} {f : Nat → Int} {v : Int} (h : j < L) : (FL L f).set j (.int v) = FL L (fun k => if k = j then v else f k) := by
  apply List.ext_getElem?
  intro k
  rw [List.getElem?_set]
  by_cases hk : k < L
  · by_cases e : j = k
    · subst e
      rw [if_pos rfl, if_pos (by rw [fl_len]; exact hk), fl_get hk, if_pos rfl]
    · rw [if_neg e, fl_get hk, fl_get hk, if_neg (fun z => e z.symm)]
  · rw [List.getElem?_eq_none (by rw [fl_len]; omega)]
    by_cases e : j = k
    · omega
    · rw [if_neg e, List.getElem?_eq_none (by rw [fl_len]; omega)]
theorem put_rows {R : Nat} {pr pc pb D : Addr} {d : Int} : putF "rows" (.ref D) (tFs R pr pc pb d) = tFs R D pc pb d := by unfold tFs; rfl
theorem put_cost {R : Nat} {pr pc pb D : Addr} {d : Int} : putF "cost" (.ref D) (tFs R pr pc pb d) = tFs R pr D pb d := by unfold tFs; rfl
theorem put_div {R : Nat} {pr pc pb : Addr} {d e : Int} : putF "divisor" (.int e) (tFs R pr pc pb d) = tFs R pr pc pb e := by unfold tFs; rfl
theorem lastB {A B : Prop} (c : Bool) (h1 : c = true → A) (h2 : c = false → B) : if c = true then A else B := by
  cases c
  · exact iteF (h2 rfl)
  · exact iteT (h1 rfl)
theorem ixN_nat {n j : Nat} (h : j < n) : ixN n (j : Int) = some j := by
  unfold ixN
  rw [if_pos (by omega), if_pos (by omega)]
  simp
def sp_Tpiv : Sp := fun vs H Q _ => ∃ (H0 : Hp) (x pb dx pr pc : Addr) (us : List V) (n R r p : Nat) (S : Tb), vs = [.ref x, .int (r : Int), .int (p : Int)] ∧ TabAt H x pb n R S dx pr pc us ∧ r < n ∧ p ≤ R + n ∧ H0 x = none ∧ H0 pb = none ∧ Same H0 H ∧
  Bnd S ∧ 0 < S.D ∧ R + n + 1 ≤ 1000 ∧ ∀ H' pr' pc' us', Same H0 H' → TabAt H' x pb n R (pivot n R S r p) dx pr' pc' us' → Q .non H'
theorem ok_Tpivot (T : Tx K mg) : FnOk P w K mg base CX0 2 196 (fdA K 196) ["self", "number", "at"] sp_Tpiv := by
  refine (f_Tpivot T).ok sc_Tpivot (fun vs H Q E h => ?_) (fun cdv A outer s H vs Q E hr h => ⟨_, PSs.nox (pss_cons (ps_set (i := 3) sc_Tpivot.nd rfl (.inr rfl) (pe_ix (k_ixL K) (k_fld K (pv 0) rfl) (pv 1) (fun _ _ => rfl)))
  (pss_cons (ps_set (i := 4) sc_Tpivot.nd rfl (.inr rfl) (pe_ix (k_ixL K) (pv 3) (pv 2) (fun _ _ => rfl)))
  (pss_cons (ps_setLc (i := 5) (own := [("other", 6), ("row", 7)]) rfl sc_Tpivot.nd rfl rfl (sw_true rfl rfl rfl (by decide +kernel)) (k_enum K true (by rfl) (free_enumerate T) (pa_cons (k_fld K (pv 0) rfl) pa_nil)) (blkOk_by (N := ["self", "number", "at", "own", "head", "rows", "other", "row"]) (sc := (defScope (inClass (top 10) 2))) (by decide +kernel)) (fun _ _ _ _ _ => (k_tgt K 2 rfl (pgs_cons (pg_name (i := 6) sc_Tpivot.nd rfl (.inl rfl) (hf := (.inr rfl))) (pgs_cons (pg_name (i := 7) sc_Tpivot.nd rfl (.inl rfl) (hf := (.inr rfl))) pgs_nil)))) (fun _ _ _ _ _ => pts_nil) (fun _ _ _ _ _ => (pe_ifExp (pt_cmpR op_eq (pv 6) (pv 1) (nomark _)) (pv 7) (pe_meth (pv 0) T.cls T.m_less (ok_Tless T) (hr.mono (by decide)) (b_Tless T) .nil pass0 (pa_cons (pv 7) (pa_cons (pv 3) (pa_cons (pv 2) (pa_cons (pv 4) pa_nil))))))))
  (pss_cons (ps_fld (pv 0) (pv 5) rfl)
  (pss_cons (ps_fld (pv 0) (pe_meth (pv 0) T.cls T.m_less (ok_Tless T) (hr.mono (by decide)) (b_Tless T) .nil pass0 (pa_cons (k_fld K (pv 0) rfl) (pa_cons (pv 3) (pa_cons (pv 2) (pa_cons (pv 4) pa_nil))))) rfl)
  (pss_cons (ps_asg (pv 2) (pg_sub (k_fld K (pv 0) rfl) (pv 1) set_list))
  (pss_one (ps_fld (pv 0) (pv 4) rfl)))))))), ?_⟩)
  · obtain ⟨H0, x, pb, dx, pr, pc, us, n, R, r, p, S, rfl, _⟩ := h; rfl
  · obtain ⟨H0, x, pb, dx, pr, pc, us, n, R, r, p, S, rfl, t, hr', hp, n1, n2, s0, hB, hD, hL, q⟩ := h
    obtain ⟨ar, ear, nar, har⟩ := t.row r hr'
    refine ⟨_, rfl, x, _, dx, _, _, rfl, t.ins, T.cls, T.no_rows, rfl, _, rfl, pr, _, _, _, rfl, rfl, SqL.of t.rows, atI_nat ear, ?_⟩
    refine ⟨_, rfl, _, rfl, ar, _, _, _, rfl, rfl, SqL.of har, fl_at (by omega), ?_⟩
    refine ⟨_, rfl, x, _, dx, _, _, rfl, t.ins, T.cls, T.no_rows, rfl, pr, us, rfl, SqL.of t.rows, fun D nD => ?_⟩
    have lenv := t.len
    refine lc_it (walk_enumB (k := true) (K := K) (a := pr) (xs := us)) (fun i H' => Same H H' ∧ ∃ ys, H' D = some (.lst ys) ∧ ys.length = i ∧ ∀ k, k < i → ∃ a, ys[k]? = some (.ref a) ∧ a ≠ pb ∧ a ≠ D ∧ H' a = some (.lst (FL (R + n + 1) ((pivot n R S r p).T k))))
      ⟨same_new nD, [], upd_same, rfl, fun k hk => absurd hk (Nat.not_lt_zero _)⟩ (fun i H' _ h => Same.seq h.1 (SqL.of t.rows)) ?_ ?_
    · rintro i v H1 H' hi ⟨s1, ys, eD, ly, hy⟩ ⟨A', y, z, rfl, nA, rfl, ey, ez⟩
      cases (Option.some.inj ey)
      rw [t.len] at hi
      obtain ⟨a, ea, na, ha⟩ := t.row i hi
      have ez2 : us[i]? = some z := ez
      rw [ez2] at ea
      cases (Option.some.inj ea)
      have s2 : Same H (upd H1 A' (.tup [.int (i : Int), .ref a])) := s1.trans (same_new nA)
      have t2 := t.mono s2
      have snoc : ∀ (c : Addr) (H4 : Hp), Same (upd H1 A' (.tup [.int (i : Int), .ref a])) H4 → c ≠ pb → c ≠ D → H4 c = some (.lst (FL (R + n + 1) ((pivot n R S r p).T i))) →
          ∃ acc, H4 D = some (.lst acc) ∧ acc.length < sizeLine ∧ Same H (upd H4 D (.lst (acc ++ [.ref c]))) ∧ ∃ zs, upd H4 D (.lst (acc ++ [.ref c])) D = some (.lst zs) ∧ zs.length = i + 1 ∧
            ∀ k, k < i + 1 → ∃ a, zs[k]? = some (.ref a) ∧ a ≠ pb ∧ a ≠ D ∧ upd H4 D (.lst (acc ++ [.ref c])) a = some (.lst (FL (R + n + 1) ((pivot n R S r p).T k))) := by
        intro c H4 s4 hc1 hc2 hc3
        have s14 : Same H1 H4 := (same_new nA).trans s4
        refine ⟨ys, s14 _ _ eD, szlt (by omega), same_upd (s1.trans s14) nD, _, upd_same, by rw [List.length_append, ly]; rfl, fun k hk => ?_⟩
        by_cases e : k = i
        · subst e
          refine ⟨c, ?_, hc1, hc2, by rw [upd_ne hc2]; exact hc3⟩
          rw [List.getElem?_append_right (by omega), ly, Nat.sub_self]; rfl
        · obtain ⟨a2, e1, e2, e3, e4⟩ := hy k (by omega)
          refine ⟨a2, ?_, e2, e3, by rw [upd_ne e3]; exact s14 _ _ e4⟩
          rw [List.getElem?_append_left (by omega)]; exact e1
      refine g_pair (.inl (.inl upd_same)) ⟨rfl, ?_⟩
      refine ⟨_, rfl, _, rfl, rfl, _, rfl, lastB _ (fun l => ?_) (fun l => ?_)⟩
      · have e : (i : Int) = r := V.int.inj (of_decide_eq_true l)
        have e' : i = r := by omega
        refine ⟨_, rfl, snoc a _ (Same.refl _) na (ne_of_none ha nD) ?_⟩
        rw [s2 _ _ ha]
        refine congrArg (fun z => some (HO.lst z)) (fl_congr fun j hj => ?_)
        rw [e', pivTr hr' (by omega)]
      · have e' : i ≠ r := fun z => of_decide_eq_false l (by rw [z])
        refine ⟨_, rfl, x, dx, _, rfl, t2.ins, rfl, _, rfl, _, rfl, _, rfl, _, rfl, ?_⟩
        refine ⟨x, dx, a, ar, _, p, R + n + 1, S.T i, S.T r, S.T r p, S.D, rfl, t2.ins, rfl, s2 _ _ ha, s2 _ _ har, by omega, hL, hD, hB.2.2, hB.1 _ _, hB.1 i, hB.1 r, fun c H4 s4 nc hc => ?_⟩
        refine snoc c H4 s4 ?_ ?_ ?_
        · intro z; rw [z] at nc; rw [t2.basis] at nc; cases nc
        · intro z
          rw [z, upd_ne (ne_of_none eD nA), eD] at nc; cases nc
        · rw [hc]
          refine congrArg (fun z => some (HO.lst z)) (fl_congr fun j hj => ?_)
          rw [pivT hi (by omega) e']
    · rintro H1 ⟨s1, ys, eD, ly, hy⟩
      rw [lenv] at ly hy
      have t1 := t.mono s1
      have nDpb : D ≠ pb := fun z => by rw [z, t.basis] at nD; cases nD
      have nDx : D ≠ x := fun z => by rw [z, t.ins] at nD; cases nD
      have npx : pb ≠ x := fun z => by have e := t.basis; rw [z, t.ins] at e; cases e
      have ax : ∀ {a : Addr} {L : List V} {Hh : Hp}, Hh a = some (.lst L) → Hh x = some (.ins CT dx (tFs R pr pc pb S.D)) → a ≠ x := fun h1 h2 z => by rw [z, h2] at h1; cases h1
      refine ⟨_, rfl, _, rfl, x, _, dx, _, rfl, t1.ins, T.cls, T.no_rows, (show 5 < 1000 by decide), ?_⟩
      rw [put_rows]
      have s01 : Same H0 H1 := s0.trans s1
      have s02 : Same H0 (upd H1 x (.ins CT dx (tFs R D pc pb S.D))) := same_upd s01 n1
      have hc2 : upd H1 x (.ins CT dx (tFs R D pc pb S.D)) pc = some (.lst (FL (R + n + 1) S.c)) := by rw [upd_ne (ax t1.cost t1.ins)]; exact t1.cost
      have ho2 : upd H1 x (.ins CT dx (tFs R D pc pb S.D)) ar = some (.lst (FL (R + n + 1) (S.T r))) := by rw [upd_ne (ax (s1 _ _ har) t1.ins)]; exact s1 _ _ har
      have hb2 : upd H1 x (.ins CT dx (tFs R D pc pb S.D)) pb = some (.lst (FL n (fun k => (S.B k : Int)))) := by rw [upd_ne (ax t1.basis t1.ins)]; exact t1.basis
      have hd2 : upd H1 x (.ins CT dx (tFs R D pc pb S.D)) D = some (.lst ys) := by rw [upd_ne nDx]; exact eD
      have hx2 : upd H1 x (.ins CT dx (tFs R D pc pb S.D)) x = some (.ins CT dx (tFs R D pc pb S.D)) := upd_same
      have hy2 : ∀ k, k < n → ∃ a, ys[k]? = some (.ref a) ∧ a ≠ pb ∧ a ≠ x ∧ upd H1 x (.ins CT dx (tFs R D pc pb S.D)) a = some (.lst (FL (R + n + 1) ((pivot n R S r p).T k))) := fun k hk => by
        obtain ⟨a, e1, e2, e3, e4⟩ := hy k hk
        have z := ax e4 t1.ins
        exact ⟨a, e1, e2, z, by rw [upd_ne z]; exact e4⟩
      generalize upd H1 x (.ins CT dx (tFs R D pc pb S.D)) = H2 at s02 hc2 ho2 hb2 hd2 hy2 hx2 ⊢
      refine ⟨_, rfl, x, dx, _, rfl, hx2, rfl, _, rfl, x, _, dx, _, _, rfl, hx2, T.cls, T.no_cost, rfl, _, rfl, _, rfl, _, rfl, ?_⟩
      refine ⟨x, dx, pc, ar, _, p, R + n + 1, S.c, S.T r, S.T r p, S.D, rfl, hx2, rfl, hc2, ho2, by omega, hL, hD, hB.2.2, hB.1 _ _, hB.2.1, hB.1 r, fun c H3 s3 nc hc => ?_⟩
      have ncpb : c ≠ pb := fun z => by rw [z, hb2] at nc; cases nc
      have hx3 := s3 _ _ hx2
      have ncx : c ≠ x := fun z => by rw [z, hx2] at nc; cases nc
      refine ⟨_, rfl, x, _, dx, _, rfl, hx3, T.cls, T.no_cost, (show 5 < 1000 by decide), ?_⟩
      rw [put_cost]
      have hx4 : upd H3 x (.ins CT dx (tFs R D c pb S.D)) x = some (.ins CT dx (tFs R D c pb S.D)) := upd_same
      have hb4 : upd H3 x (.ins CT dx (tFs R D c pb S.D)) pb = some (.lst (FL n (fun k => (S.B k : Int)))) := by rw [upd_ne npx]; exact s3 _ _ hb2
      refine ⟨_, rfl, _, rfl, x, _, dx, _, _, rfl, hx4, T.cls, T.no_basis, rfl, _, rfl, pb, _, _, r, rfl, rfl, hb4, ixN_nat (by rw [fl_len]; exact hr'), ?_⟩
      rw [fl_set hr']
      refine ⟨_, rfl, _, rfl, x, _, dx, tFs R D c pb S.D, rfl, (by rw [upd_ne (fun z => npx z.symm)]; exact hx4), T.cls, T.no_divisor, (show 5 < 1000 by decide), ?_⟩
      rw [put_div]
      refine q _ D c ys (same_upd (same_upd (same_upd (s02.trans s3) n1) n2) n1) ⟨upd_same, ?_, ly, ?_, ?_, ?_, nDpb, ncpb⟩
      · rw [upd_ne nDx, upd_ne nDpb, upd_ne nDx]; exact s3 _ _ hd2
      · intro k hk
        obtain ⟨a, e1, e2, e3, e4⟩ := hy2 k hk
        exact ⟨a, e1, e2, by rw [upd_ne e3, upd_ne e2, upd_ne e3]; exact s3 _ _ e4⟩
      · rw [upd_ne ncx, upd_ne ncpb, upd_ne ncx, hc]
        refine congrArg (fun z => some (HO.lst z)) (fl_congr fun j hj => ?_)
        show _ = if j ≤ R + n then _ else _
        rw [if_pos (by omega)]
      · rw [upd_ne npx, upd_same]
        refine congrArg (fun z => some (HO.lst z)) (fl_congr fun j hj => ?_)
        show _ = (((if j = r then p else S.B j : Nat)) : Int)
        by_cases e : j = r
        · rw [if_pos e, if_pos e]
        · rw [if_neg e, if_neg e]
end
end K28
end
section
set_option Elab.async false
set_option linter.all false
set_option maxRecDepth 100000
set_option maxHeartbeats 4000000
set_option exponentiation.threshold 2000
namespace K28
open PySem L2
theorem noneBack {H H' : Hp} {a : Addr} (h : H' a = none) (s : Same H H') : H a = none := by
  cases e : H a with
  | none => rfl
  | some o =>
    have := s _ _ e
    rw [h] at this; cases this
theorem fl_app {R n : Nat} {f g h : Nat → Int} {v : Int} (h1 : ∀ j, j < R → h j = f j) (h2 : ∀ j, j < n → h (R + j) = g j) (h3 : h (R + n) = v) : FL R f ++ FL n g ++ [V.int v] = FL (R + n + 1) h := by
  apply List.ext_getElem?
  intro k
  by_cases a : k < R
  · rw [List.getElem?_append_left (by rw [List.length_append, fl_len, fl_len]; omega), List.getElem?_append_left (by rw [fl_len]; exact a), fl_get a, fl_get (by omega), h1 k a]
  · by_cases b : k < R + n
    · rw [List.getElem?_append_left (by rw [List.length_append, fl_len, fl_len]; omega), List.getElem?_append_right (by rw [fl_len]; omega), fl_len, fl_get (by omega), fl_get (by omega), ← h2 (k - R) (by omega), show R + (k - R) = k by omega]
    · by_cases c : k = R + n
      · subst c
        rw [List.getElem?_append_right (by rw [List.length_append, fl_len, fl_len]; omega), List.length_append, fl_len, fl_len, Nat.sub_self, fl_get (by omega), h3]; rfl
      · rw [List.getElem?_eq_none (by rw [List.length_append, List.length_append, fl_len, fl_len]; simp; omega), List.getElem?_eq_none (by rw [fl_len]; omega)]
theorem walk_rng0 {n : Nat} : Walk (Itr 0 n) n (fun _ => True) (YFn fun i => .int (i : Nat)) := Walk.mono walk_range (fun _ h => h) fun i H x H' _ _ ⟨h1, h2⟩ => ⟨h1, by rw [h2]; exact congrArg V.int (Int.zero_add _)⟩
theorem sum_fi {n : Nat} {f : Nat → Int} : (FI n f).sum = sN n f := by
  unfold FI
  induction n with
  | zero => rfl
  | succ n ih => rw [List.range_succ, List.map_append, List.sum_append, ih]; simp [sN]
/-- a new list of ints from a comprehension whose items may lay new things -/
theorem lc_fl {K : PySem.W.Frag} {J : It} {n : Nat} {G : Hp → Prop} {Y : Nat → Hp → V → Hp → Prop} {σ : L2.St} {H1 : Hp} {g : TG} {te : TE} {vs : List Nat}
    {D : Addr} (hD : H1 D = none) {Qd : Hp → Prop} (wk : Walk J n G Y) (f : Nat → Int) (hz : n ≤ 100000) (hG : ∀ H', Same H1 H' → G H')
    (body : ∀ i x H' H2 (Q' : VK), i < n → Same H1 H' → Y i H' x H2 → (∀ H4, Same H' H4 → Q' (.int (f i)) H4) → EltK σ vs g te x H2 Q')
    (post : ∀ H', Same H1 H' → H' D = some (.lst (FL n f)) → Qd H') : LcGoal D J H1 σ vs g tYes te Qd := by
  refine lc_map (K := K) hD wk (fun i => .i (f i)) hz hG ?_ ?_
  · intro i x H' H2 Q' hi s y q
    exact body i x H' H2 Q' hi s y fun H4 s4 => q _ _ s4 rfl
  · intro H' us s eD dL
    have e2 : (List.range n).map (fun x => Dt.i (f x)) = (FI n f).map Dt.i := by unfold FI; rw [List.map_map]; rfl
    rw [e2] at dL
    rw [dL.ints] at eD
    exact post H' s eD
section
variable {P : Program} {w : World} {K : PySem.W.Frag} {mg : Str → Option Value} {base : Heap}
/-! Table.__init__ -/
theorem sc_Tinit : FnScope ["self", "columns", "wanted", "many", "at", "marks", "other", "row", "column"] ["self", "columns", "wanted"] (defScope (inClass (top 10) 0)) := ⟨rfl, rfl, rfl, by decide +kernel, rfl, by decide +kernel, by decide +kernel⟩
structure Cols (K : PySem.W.Frag) (H : Hp) (ca wa : Addr) (n R : Nat) (A : Mat) (cs : List V) : Prop where
  cols : H ca = some (.lst cs)
  len : cs.length = R
  col : ∀ j, j < R → ∃ a, cs[j]? = some (.ref a) ∧ H a = some (.lst (FL n (A j)))
  want : H wa = some (.lst (FL n (A (R + n))))
theorem Cols.mono {H H' : Hp} {ca wa : Addr} {n R : Nat} {A : Mat} {cs : List V} (c : Cols K H ca wa n R A cs) (e : Same H H') : Cols K H' ca wa n R A cs :=
  ⟨e _ _ c.cols, c.len, fun j hj => by obtain ⟨a, h1, h2⟩ := c.col j hj; exact ⟨a, h1, e _ _ h2⟩, e _ _ c.want⟩
theorem lst_ne {H : Hp} {a x C dx : Addr} {L : List V} {fs : List (Str × V)} (h : H a = some (.lst L)) (h' : H x = some (.ins C dx fs)) : a ≠ x := fun z => by rw [z, h'] at h; cases h
theorem put0 {v : V} : putF "real" v ([] : List (Str × V)) = ([("real", v)] : List (Str × V)) := rfl
theorem put1 {u v : V} : putF "rows" v ([("real", u)] : List (Str × V)) = ([("real", u), ("rows", v)] : List (Str × V)) := by rfl
theorem put2 {u1 u2 v : V} : putF "cost" v ([("real", u1), ("rows", u2)] : List (Str × V)) = ([("real", u1), ("rows", u2), ("cost", v)] : List (Str × V)) := by rfl
theorem put3 {u1 u2 u3 v : V} : putF "basis" v ([("real", u1), ("rows", u2), ("cost", u3)] : List (Str × V)) = ([("real", u1), ("rows", u2), ("cost", u3), ("basis", v)] : List (Str × V)) := by rfl
theorem put4 {u1 u2 u3 u4 v : V} : putF "divisor" v ([("real", u1), ("rows", u2), ("cost", u3), ("basis", u4)] : List (Str × V)) = ([("real", u1), ("rows", u2), ("cost", u3), ("basis", u4), ("divisor", v)] : List (Str × V)) := by rfl
def sp_Tinit (K : PySem.W.Frag) : Sp := fun vs H Q _ => ∃ (H0 : Hp) (x dx ca wa : Addr) (n R : Nat) (A : Mat) (cs : List V), vs = [.ref x, .ref ca, .ref wa] ∧ H x = some (.ins CT dx []) ∧ H0 x = none ∧ Same H0 H ∧ Cols K H0 ca wa n R A cs ∧
  (∀ k x, k < n → x < n → A (R + k) x = if k = x then 1 else 0) ∧ R + n + 1 ≤ 1000 ∧
  ∀ H' pb pr pc us, Same H0 H' → H0 pb = none → TabAt H' x pb n R (init n R A) dx pr pc us → Q .non H'
theorem ok_Tinit (T : Tx K mg) : FnOk P w K mg base CX0 1 184 (fdA K 184) ["self", "columns", "wanted"] (sp_Tinit K) := by
  refine (f_Tinit T).ok sc_Tinit (fun vs H Q E h => ?_) (fun cdv A outer s H vs Q E hr h => ⟨_, PSs.nox (pss_cons (ps_set (i := 3) sc_Tinit.nd rfl (.inl rfl) (pe_callB (k_len K) (by rfl) (free_len T) (by decide +kernel) (pa_cons (pv 2) pa_nil)))
  (pss_cons (ps_fld (pv 0) (pe_callB (k_len K) (by rfl) (free_len T) (by decide +kernel) (pa_cons (pv 1) pa_nil)) rfl)
  (pss_cons (ps_fld (pv 0) (pe_lst pa_nil) rfl)
  (pss_cons (ps_for PassesOwn.never rfl (pi_range1 (by rfl) (free_range T) (pa_cons (pv 3) pa_nil)) (pg_name (i := 4) sc_Tinit.nd rfl (.inr rfl) (hf := (.inl rfl)))
    (pss_cons (ps_setLc (i := 5) (own := [("other", 6)]) rfl sc_Tinit.nd rfl rfl (sw_true rfl rfl rfl (by decide +kernel)) (pi_range1 (by rfl) (free_range T) (pa_cons (pv 3) pa_nil)) (blkOk_by (N := ["self", "columns", "wanted", "many", "at", "marks", "other", "row", "column"]) (sc := (defScope (inClass (top 10) 0))) (by decide +kernel)) (fun _ _ _ _ _ => (pg_name (i := 6) sc_Tinit.nd rfl (.inl rfl) (hf := (.inr rfl)))) (fun _ _ _ _ _ => pts_nil) (fun _ _ _ _ _ => (pe_ifExp (pt_cmpR op_eq (pv 4) (pv 6) (nomark _)) pe_int pe_int)))
  (pss_one (ps_expr (pe_bm PySem.F.plainAttrs_list PySem.F.slot_list_append PySem.F.type_list_append mt_append (k_fld K (pv 0) rfl) (pa_cons (pe_op op_cat (pe_op op_cat (pe_lc (own := [("column", 8)]) rfl sc_Tinit.nd (k_pil K (pv 1)) (blkOk_by (N := ["self", "columns", "wanted", "many", "at", "marks", "other", "row", "column"]) (sc := (defScope (inClass (top 10) 0))) (by decide +kernel)) (fun _ _ _ _ _ => (pg_name (i := 8) sc_Tinit.nd rfl (.inl rfl) (hf := (.inr rfl)))) (fun _ _ _ _ _ => pts_nil) (fun _ _ _ _ _ => (pe_ix (k_ixL K) (pv 8) (pv 4) (fun _ _ => rfl)))) (pv 5)) (pe_lst (pa_cons (pe_ix (k_ixL K) (pv 2) (pv 4) (fun _ _ => rfl)) pa_nil))) pa_nil))))))
  (pss_cons (ps_fld (pv 0) (pe_lc (own := [("at", 4)]) rfl sc_Tinit.nd (pi_range1 (by rfl) (free_range T) (pa_cons (pe_op op_add (pe_op op_add (k_fld K (pv 0) rfl) (pv 3)) pe_int) pa_nil)) (blkOk_by (N := ["self", "columns", "wanted", "many", "at", "marks", "other", "row", "column"]) (sc := (defScope (inClass (top 10) 0))) (by decide +kernel)) (fun _ _ _ _ _ => (pg_name (i := 4) sc_Tinit.nd rfl (.inr rfl) (hf := (.inl rfl)))) (fun _ _ _ _ _ => pts_nil) (fun _ _ _ _ _ => (pe_callB (k_sum K rfl) (by rfl) (free_sum T) (by decide +kernel) (pa_cons (pe_lc (own := [("row", 7)]) rfl sc_Tinit.nd (k_pil K (k_fld K (pv 0) rfl)) (blkOk_by (N := ["self", "columns", "wanted", "many", "at", "marks", "other", "row", "column"]) (by kernel_rfl)) (fun _ _ _ _ _ => (pg_name (i := 7) sc_Tinit.nd rfl (.inl rfl) (hf := (.inr rfl)))) (fun _ _ _ _ _ => pts_nil) (fun _ _ _ _ _ => (pe_ix (k_ixL K) (pv 7) (pv 4) (fun _ _ => rfl)))) pa_nil)))) rfl)
  (pss_cons (ps_fld (pv 0) (pe_lc (own := [("at", 4)]) rfl sc_Tinit.nd (pi_range1 (by rfl) (free_range T) (pa_cons (pv 3) pa_nil)) (blkOk_by (N := ["self", "columns", "wanted", "many", "at", "marks", "other", "row", "column"]) (sc := (defScope (inClass (top 10) 0))) (by decide +kernel)) (fun _ _ _ _ _ => (pg_name (i := 4) sc_Tinit.nd rfl (.inl rfl) (hf := (.inr rfl)))) (fun _ _ _ _ _ => pts_nil) (fun _ _ _ _ _ => (pe_op op_add (k_fld K (pv 0) rfl) (pv 4)))) rfl)
  (pss_one (ps_fld (pv 0) pe_int rfl)))))))), ?_⟩)
  · obtain ⟨H0, x, dx, ca, wa, n, R, A, cs, rfl, _⟩ := h; rfl
  · obtain ⟨H0, x, dx, ca, wa, n, R, M, cs, rfl, hx, n0, s0, hC, hU, hL, q⟩ := h
    have hC1 := hC.mono s0
    refine ⟨_, rfl, wa, _, rfl, .inl (SqL.of hC1.want), ?_⟩
    rw [fl_len]
    refine ⟨_, rfl, ca, _, rfl, .inl (SqL.of hC1.cols), ?_⟩
    rw [hC1.len]
    refine ⟨_, rfl, x, _, dx, [], rfl, hx, T.cls, T.no_real, (show 0 < 1000 by decide), ?_⟩
    rw [put0]
    refine ⟨szl (by decide), fun pr npr => ?_⟩
    have e2 : Same H0 (upd (upd H x (.ins CT dx [("real", .int (R : Int))])) pr (.lst [])) := (same_upd s0 n0).trans (same_new npr)
    have hxr : pr ≠ x := fun z => by rw [z, upd_same] at npr; cases npr
    have n0pr : H0 pr = none := by
      cases e : H0 pr with
      | none => rfl
      | some o =>
        have := (same_upd (o := .ins CT dx [("real", .int (R : Int))]) s0 n0) _ _ e
        rw [npr] at this; cases this
    have hx2 : upd (upd H x (.ins CT dx [("real", .int (R : Int))])) pr (.lst []) x = some (.ins CT dx [("real", .int (R : Int))]) := by rw [upd_ne (fun z => hxr z.symm)]; exact upd_same
    have hp2 : upd (upd H x (.ins CT dx [("real", .int (R : Int))])) pr (.lst []) pr = some (.lst []) := upd_same
    generalize upd (upd H x (.ins CT dx [("real", .int (R : Int))])) pr (.lst []) = H2 at e2 hx2 hp2 ⊢
    refine ⟨_, rfl, x, _, dx, _, rfl, hx2, T.cls, T.no_rows, (show 1 < 1000 by decide), ?_⟩
    rw [put1]
    have e3 : Same H0 (upd H2 x (.ins CT dx [("real", .int (R : Int)), ("rows", .ref pr)])) := same_upd e2 n0
    have hx3 : upd H2 x (.ins CT dx [("real", .int (R : Int)), ("rows", .ref pr)]) x = some (.ins CT dx [("real", .int (R : Int)), ("rows", .ref pr)]) := upd_same
    have hp3 : upd H2 x (.ins CT dx [("real", .int (R : Int)), ("rows", .ref pr)]) pr = some (.lst []) := by rw [upd_ne hxr]; exact hp2
    generalize upd H2 x (.ins CT dx [("real", .int (R : Int)), ("rows", .ref pr)]) = H3 at e3 hx3 hp3 ⊢
    refine ⟨_, rfl, (n : Int), rfl, by omega, by omega, ?_⟩
    refine for_range (n := n) (fun i σ H' => (∃ o4 o5 o6 o7 o8, σ = [some (.ref x), some (.ref ca), some (.ref wa), some (.int (n : Int)), o4, o5, o6, o7, o8]) ∧ Same H0 H' ∧ H' x = some (.ins CT dx [("real", .int (R : Int)), ("rows", .ref pr)]) ∧
      ∃ ys, H' pr = some (.lst ys) ∧ ys.length = i ∧ ∀ k, k < i → ∃ a, ys[k]? = some (.ref a) ∧ a ≠ pr ∧ H' a = some (.lst (FL (R + n + 1) ((init n R M).T k)))) ⟨⟨_, _, _, _, _, rfl⟩, e3, hx3, [], hp3, rfl, fun k hk => absurd hk (Nat.not_lt_zero _)⟩ ?_ ?_
    · rintro i σ H' hi ⟨⟨o4, o5, o6, o7, o8, rfl⟩, s1, hx', ys, hp', ly, hy⟩
      have hC2 := hC.mono s1
      have e0 : ((0 : Int) + (i : Int)) = (i : Int) := Int.zero_add _
      rw [e0]
      -- marks
      refine ⟨_, rfl, (n : Int), rfl, by omega, by omega, fun D1 nD1 => ?_⟩
      refine lc_rngI (n := n) nD1 (fun o => if i = o then 1 else 0) (by omega) (fun _ => rfl) (fun o Q' H2 ho s2 q' => ?_) (fun H4 s4 eD1 => ?_)
      · have e1 : ((0 : Int) + (o : Int)) = (o : Int) := Int.zero_add _
        refine ⟨_, rfl, _, rfl, rfl, _, rfl, lastB _ (fun l => ?_) (fun l => ?_)⟩
        · have c : i = o := by have := V.int.inj (of_decide_eq_true l); omega
          rw [if_pos c] at q'; exact q'
        · have c : ¬ i = o := fun z => of_decide_eq_false l (by rw [z, e1])
          rw [if_neg c] at q'; exact q'
      -- the row
      have t4 : H4 x = some (.ins CT dx [("real", .int (R : Int)), ("rows", .ref pr)]) := s4 _ _ hx'
      have hC4 := hC2.mono s4
      have hp4 := s4 _ _ hp'
      refine ⟨_, rfl, x, _, dx, _, _, rfl, t4, T.cls, T.no_rows, rfl, ?_⟩
      refine ⟨.inl ⟨rfl, _, SqL.of hp4⟩, ?_⟩
      refine ⟨_, rfl, ca, rfl, ⟨cs, SqL.of hC4.cols⟩, fun D2 nD2 => ?_⟩
      refine lc_fl (K := K) nD2 (n := R) (G := fun Hh => SqL K Hh ca cs) (Y := YAt cs) (by rw [← hC4.len]; exact walk_list) (fun j => M j i) (by omega) (fun Hh s => Same.seq s (SqL.of hC4.cols)) ?_ ?_
      · rintro j v Hg Hk Q' hj s5 ⟨rfl, ev⟩ q'
        obtain ⟨a, ea, ha⟩ := hC4.col j hj
        rw [ev] at ea
        cases (Option.some.inj ea)
        exact ⟨rfl, _, rfl, _, rfl, a, _, _, _, rfl, rfl, SqL.of (s5 _ _ ha), fl_at hi, q' _ (Same.refl _)⟩
      · intro H5 s5 eD2
        have eD15 := s5 _ _ eD1
        refine ⟨_, rfl, D2, D1, _, _, rfl, rfl, eD2, eD15, szl (by rw [fl_len]; simp; omega), fun D3 nD3 => ?_⟩
        have hC5 := hC4.mono s5
        refine ⟨_, rfl, _, rfl, wa, _, _, _, rfl, rfl, SqL.of (by rw [upd_ne (ne_of_none hC5.want nD3)]; exact hC5.want), fl_at hi, szl (show 1 ≤ 1000000 by decide), fun D4 nD4 => ?_⟩
        refine ⟨D3, D4, _, _, rfl, rfl, (by rw [upd_ne (ne_of_none upd_same nD4)]; exact upd_same), upd_same, szl (by simp [fl_len]; omega), fun D5 nD5 => ?_⟩
        have eR : FL R (fun j => M j i) ++ List.map V.int (List.map (fun o => if i = o then (1 : Int) else 0) (List.range n)) ++ [V.int (M (R + n) i)] = FL (R + n + 1) ((init n R M).T i) := by
          refine fl_app (g := fun o => if i = o then (1 : Int) else 0) ?_ ?_ ?_
          · intro j hj
            exact if_pos ⟨hi, by omega⟩
          · intro o ho
            rw [show (init n R M).T i (R + o) = M (R + o) i from if_pos ⟨hi, by omega⟩, hU o i ho hi]
            by_cases c : i = o
            · rw [if_pos c, if_pos c.symm]
            · rw [if_neg c, if_neg (fun z => c z.symm)]
          · exact if_pos ⟨hi, Nat.le_refl _⟩
        rw [eR]
        have s6 : Same H4 (upd (upd (upd H5 D3 (.lst (FL R (fun j => M j i) ++ List.map V.int (List.map (fun o => if i = o then (1 : Int) else 0) (List.range n))))) D4 (.lst [V.int (M (R + n) i)])) D5 (.lst (FL (R + n + 1) ((init n R M).T i)))) :=
          s5.trans ((same_new nD3).trans ((same_new nD4).trans (same_new nD5)))
        have e5 : upd (upd (upd H5 D3 (.lst (FL R (fun j => M j i) ++ List.map V.int (List.map (fun o => if i = o then (1 : Int) else 0) (List.range n))))) D4 (.lst [V.int (M (R + n) i)])) D5 (.lst (FL (R + n + 1) ((init n R M).T i))) D5 = some (.lst (FL (R + n + 1) ((init n R M).T i))) := upd_same
        have n5 : H4 D5 = none := noneBack nD5 (s5.trans ((same_new nD3).trans (same_new nD4)))
        generalize upd (upd (upd H5 D3 (.lst (FL R (fun j => M j i) ++ List.map V.int (List.map (fun o => if i = o then (1 : Int) else 0) (List.range n))))) D4 (.lst [V.int (M (R + n) i)])) D5 (.lst (FL (R + n + 1) ((init n R M).T i))) = H6 at s6 e5 ⊢
        have s16 : Same H' H6 := s4.trans s6
        have p6 := s16 _ _ hp'
        have n5p : D5 ≠ pr := fun z => by rw [z] at n5; rw [s4 _ _ hp'] at n5; cases n5
        refine ⟨pr, ys, _, rfl, rfl, p6, szlt (by omega), ⟨_, _, _, _, _, rfl⟩, same_upd (s1.trans s16) n0pr, ?_, _, upd_same, (by rw [List.length_append, ly]; rfl), fun k hk => ?_⟩
        · rw [upd_ne (fun z => hxr z.symm)]; exact s16 _ _ hx'
        · by_cases e : k = i
          · subst e
            refine ⟨D5, ?_, n5p, by rw [upd_ne n5p]; exact e5⟩
            rw [List.getElem?_append_right (by omega), ly, Nat.sub_self]; rfl
          · obtain ⟨a2, h1, h2, h3⟩ := hy k (by omega)
            refine ⟨a2, ?_, h2, by rw [upd_ne h2]; exact s16 _ _ h3⟩
            rw [List.getElem?_append_left (by omega)]; exact h1
    · rintro σ H' ⟨⟨o4, o5, o6, o7, o8, rfl⟩, s1, hx', ys, hp', ly, hy⟩
      -- cost
      refine ⟨_, rfl, x, _, dx, _, _, rfl, hx', T.cls, T.no_real, rfl, _, rfl, _, _, rfl, rfl, _, _, rfl, rfl, _, rfl, by omega, by omega, fun C1 nC1 => ?_⟩
      rw [show ((R : Int) + (n : Int) + 1).toNat = R + n + 1 by omega]
      refine lc_fl (K := K) nC1 (n := R + n + 1) walk_rng0 (init n R M).c (by omega) (fun _ _ => trivial) ?_ ?_
      · rintro j v Hg Hk Q' hj s5 ⟨rfl, rfl⟩ q'
        refine ⟨rfl, _, rfl, x, _, dx, _, _, rfl, s5 _ _ hx', T.cls, T.no_rows, rfl, pr, rfl, ⟨ys, SqL.of (s5 _ _ hp')⟩, fun C2 nC2 => ?_⟩
        refine lc_fl (K := K) nC2 (n := n) (G := fun Hh => SqL K Hh pr ys) (Y := YAt ys) (by rw [← ly]; exact walk_list) (fun k => (init n R M).T k j) (by omega) (fun Hh s => SqL.of (s _ _ (s5 _ _ hp'))) ?_ ?_
        · rintro k v Hm Hn Q2 hk s6 ⟨rfl, ev⟩ q2
          obtain ⟨a, ea, na, ha⟩ := hy k hk
          rw [ev] at ea
          cases (Option.some.inj ea)
          exact ⟨rfl, _, rfl, _, rfl, a, _, _, _, rfl, rfl, SqL.of (s6 _ _ (s5 _ _ ha)), fl_at hj, q2 _ (Same.refl _)⟩
        · intro H6 s6 eC2
          refine ⟨C2, FI n (fun k => (init n R M).T k j), rfl, SqL.of eC2, ?_⟩
          have e := q' H6 s6
          rw [sum_fi]
          have e2 : (init n R M).c j = sN n (fun k => (init n R M).T k j) := by
            show (if j ≤ R + n then _ else _) = _
            rw [if_pos (by omega)]
            exact sN_congr fun k hk => (if_pos ⟨hk, by omega⟩).symm
          rw [e2] at e
          exact e
      · intro H5 s5 eC1
        have hx5 := s5 _ _ hx'
        have hp5 := s5 _ _ hp'
        have c1x := lst_ne eC1 hx5
        have c1p : C1 ≠ pr := fun z => by rw [z] at nC1; rw [nC1] at hp'; cases hp'
        refine ⟨_, rfl, x, _, dx, _, rfl, hx5, T.cls, T.no_cost, (show 2 < 1000 by decide), ?_⟩
        rw [put2]
        have s7 : Same H0 (upd H5 x (.ins CT dx [("real", .int (R : Int)), ("rows", .ref pr), ("cost", .ref C1)])) := same_upd (s1.trans s5) n0
        have hx7 : upd H5 x (.ins CT dx [("real", .int (R : Int)), ("rows", .ref pr), ("cost", .ref C1)]) x = some (.ins CT dx [("real", .int (R : Int)), ("rows", .ref pr), ("cost", .ref C1)]) := upd_same
        have hp7 : upd H5 x (.ins CT dx [("real", .int (R : Int)), ("rows", .ref pr), ("cost", .ref C1)]) pr = some (.lst ys) := by rw [upd_ne hxr]; exact hp5
        have hc7 : upd H5 x (.ins CT dx [("real", .int (R : Int)), ("rows", .ref pr), ("cost", .ref C1)]) C1 = some (.lst (FL (R + n + 1) (init n R M).c)) := by rw [upd_ne c1x]; exact eC1
        have hy7 : ∀ k, k < n → ∃ a, ys[k]? = some (.ref a) ∧ a ≠ x ∧ upd H5 x (.ins CT dx [("real", .int (R : Int)), ("rows", .ref pr), ("cost", .ref C1)]) a = some (.lst (FL (R + n + 1) ((init n R M).T k))) := fun k hk => by
          obtain ⟨a, h1, h2, h3⟩ := hy k hk
          have z := lst_ne h3 hx'
          exact ⟨a, h1, z, by rw [upd_ne z]; exact s5 _ _ h3⟩
        generalize upd H5 x (.ins CT dx [("real", .int (R : Int)), ("rows", .ref pr), ("cost", .ref C1)]) = H7 at s7 hx7 hp7 hc7 hy7 ⊢
        -- basis
        refine ⟨_, rfl, (n : Int), rfl, by omega, by omega, fun B1 nB1 => ?_⟩
        refine lc_fl (K := K) nB1 (n := n) walk_rng0 (fun k => (((init n R M).B k : Nat) : Int)) (by omega) (fun _ _ => trivial) ?_ ?_
        · rintro j v Hg Hk Q' hj s8 ⟨rfl, rfl⟩ q'
          refine ⟨rfl, _, rfl, x, _, dx, _, _, rfl, s8 _ _ hx7, T.cls, T.no_real, rfl, _, rfl, _, _, rfl, rfl, ?_⟩
          have e := q' _ (Same.refl _)
          have e2 : (((init n R M).B j : Nat) : Int) = (R : Int) + (j : Int) := by
            show (((if j < n then R + j else 0 : Nat)) : Int) = _
            rw [if_pos hj]; omega
          rw [e2] at e
          exact e
        · intro H8 s8 eB1
          have hx8 := s8 _ _ hx7
          have b1x := lst_ne eB1 hx8
          have nn : ∀ {b : Addr} {o : HO}, H7 b = some o → b ≠ B1 := fun h => ne_of_none h nB1
          refine ⟨_, rfl, x, _, dx, _, rfl, hx8, T.cls, T.no_basis, (show 3 < 1000 by decide), ?_⟩
          rw [put3]
          refine ⟨_, rfl, x, _, dx, [("real", .int (R : Int)), ("rows", .ref pr), ("cost", .ref C1), ("basis", .ref B1)], rfl, upd_same, T.cls, T.no_divisor, (show 4 < 1000 by decide), ?_⟩
          rw [put4]
          have n0b : H0 B1 = none := by
            cases e : H0 B1 with
            | none => rfl
            | some o => have := s7 _ _ e; rw [nB1] at this; cases this
          refine q _ B1 pr C1 ys (same_upd (same_upd (s7.trans s8) n0) n0) n0b ⟨upd_same, ?_, ly, ?_, ?_, ?_, nn hp7, nn hc7⟩
          · rw [upd_ne hxr, upd_ne hxr]; exact s8 _ _ hp7
          · intro k hk
            obtain ⟨a, h1, h2, h3⟩ := hy7 k hk
            exact ⟨a, h1, nn h3, by rw [upd_ne h2, upd_ne h2]; exact s8 _ _ h3⟩
          · rw [upd_ne c1x, upd_ne c1x]; exact s8 _ _ hc7
          · rw [upd_ne b1x, upd_ne b1x]; exact eB1
end
end K28
end
section
set_option Elab.async false
set_option linter.all false
set_option maxRecDepth 100000
set_option maxHeartbeats 4000000
set_option exponentiation.threshold 2000
namespace K28
open PySem L2
theorem rep_fl (R : Nat) : (List.replicate R [V.int 0]).flatten = FL R (fun _ => 0) := by
  rw [rep_one]
  unfold FL FI
  rw [List.map_map]
  apply List.ext_getElem
  · simp
  · intro i h1 h2; simp
theorem cut_fl {R n : Nat} {f : Nat → Int} : cutV (FL (R + n + 1) f) (some (R : Int)) (some (-1)) = FL n (fun k => f (R + k)) := by
  have e1 : HT.sIx (R + n + 1) 0 (some (R : Int)) = R := by rw [HT.sIx_nat]; omega
  have e2 : HT.sIx (R + n + 1) (R + n + 1) (some (-1)) = R + n := by unfold HT.sIx; simp; omega
  unfold cutV
  rw [fl_len, e1, e2]
  apply List.ext_getElem?
  intro k
  by_cases h : k < n
  · rw [List.getElem?_take_of_lt (by omega), List.getElem?_drop, fl_get (by omega), fl_get h]
  · rw [List.getElem?_eq_none (by rw [List.length_take]; omega), List.getElem?_eq_none (by rw [fl_len]; omega)]
section
variable {P : Program} {w : World} {K : PySem.W.Frag} {mg : Str → Option Value} {base : Heap}
theorem sc_solved : FnScope ["columns", "wanted", "table", "at", "weights", "number", "column"] ["columns", "wanted"] (defScope (top 11)) := ⟨rfl, rfl, rfl, by decide +kernel, rfl, by decide +kernel, by decide +kernel⟩
def sp_solved (K : PySem.W.Frag) : Sp := fun vs H Q _ => ∃ (ca wa : Addr) (n R C : Nat) (A : Mat) (cs : List V), vs = [.ref ca, .ref wa] ∧ Cols K H ca wa n R A cs ∧ Start n R A ∧ 1 ≤ n ∧ R + n + 1 ≤ 1000 ∧
  (∀ j x, j ≤ R + n → x < n → (A j x).natAbs ≤ C) ∧ n * facP n C < 2 ^ 500 ∧
  (∀ H' t W ws D, Same H H' → SqT K H' t [.ref W, .int D] → H' W = some (.lst (FL R ws)) → SolW n R A (n * facP n C) ws D → Q (.ref t) H') ∧
  (∀ H' t W u, Same H H' → SqT K H' t [.non, .ref W] → H' W = some (.lst (FL n (fun k => - u k))) → SolP n R A (n * facP n C) u → Q (.ref t) H')
theorem ok_solved (T : Tx K mg) : FnOk P w K mg base CX0 3 220 (fdA K 220) ["columns", "wanted"] (sp_solved K) := by
  refine (f_solved T).ok sc_solved (fun vs H Q E h => ?_) (fun cdv A outer s H vs Q E hr h => ⟨_, PSs.nox (pss_cons (ps_set (i := 2) sc_solved.nd rfl (.inl rfl) (pe_make T.mkc (ok_Tinit T) (hr.mono (by decide)) (by rfl) (g_Table T) (b_Tinit T) .nil pass0 (pa_cons (pv 0) (pa_cons (pv 1) pa_nil))))
  (pss_cons (ps_set (i := 3) sc_solved.nd rfl (.inl rfl) (pe_meth0 (pv 2) T.cls T.m_entering (ok_Tentering T) (hr.mono (by decide)) (b_Tentering T) .nil pass0))
  (pss_cons (ps_while PassesOwn.never (pt_cmpR op_notN (pv 3) pe_non (nomark _)) (pss_cons (ps_expr (pe_meth (pv 2) T.cls T.m_pivot (ok_Tpivot T) (hr.mono (by decide)) (b_Tpivot T) .nil pass0 (pa_cons (pe_meth (pv 2) T.cls T.m_leaving (ok_Tleaving T) (hr.mono (by decide)) (b_Tleaving T) .nil pass0 (pa_cons (pv 3) pa_nil)) (pa_cons (pv 3) pa_nil))))
  (pss_one (ps_set (i := 3) sc_solved.nd rfl (.inl rfl) (pe_meth0 (pv 2) T.cls T.m_entering (ok_Tentering T) (hr.mono (by decide)) (b_Tentering T) .nil pass0)))))
  (pss_cons (ps_if (pt_cmpR op_eq (pe_ix (k_ixL K) (k_fld K (pv 2) rfl) (pe_un un_neg pe_int) (fun _ _ => rfl)) pe_int (nomark _)) (pss_cons (ps_set (i := 4) sc_solved.nd rfl (.inl rfl) (pe_op op_rep (pe_lst (pa_cons pe_int pa_nil)) (k_fld K (pv 2) rfl)))
  (pss_cons (ps_for PassesOwn.never rfl (k_enum K true (by rfl) (free_enumerate T) (pa_cons (k_fld K (pv 2) rfl) pa_nil)) (k_tgt K 2 rfl (pgs_cons (pg_name (i := 5) sc_solved.nd rfl (.inl rfl) (hf := (.inl rfl))) (pgs_cons (pg_name (i := 6) sc_solved.nd rfl (.inl rfl) (hf := (.inl rfl))) pgs_nil)))
    (pss_one (ps_if (pt_cmpR op_lt (pv 6) (k_fld K (pv 2) rfl) (nomark _)) (pss_one (ps_asg (pe_ix (k_ixL K) (pe_ix (k_ixL K) (k_fld K (pv 2) rfl) (pv 5) (fun _ _ => rfl)) (pe_un un_neg pe_int) (fun _ _ => rfl)) (pg_sub (pv 4) (pv 6) set_list))) pss_nil)))
  (pss_one (ps_ret (pe_tup (pa_cons (pv 4) (pa_cons (k_fld K (pv 2) rfl) pa_nil))))))) pss_nil)
  (pss_one (ps_ret (pe_tup (pa_cons pe_non (pa_cons (pe_lc (own := [("number", 5)]) rfl sc_solved.nd (k_pil K (pe_slice (k_slL K) (k_fld K (pv 2) rfl) (po_some (k_fld K (pv 2) rfl)) (po_some (pe_un un_neg pe_int)))) (blkOk_by (N := ["columns", "wanted", "table", "at", "weights", "number", "column"]) (sc := (defScope (top 11))) (by decide +kernel)) (fun _ _ _ _ _ => (pg_name (i := 5) sc_solved.nd rfl (.inl rfl) (hf := (.inr rfl)))) (fun _ _ _ _ _ => pts_nil) (fun _ _ _ _ _ => (pe_un un_neg (pv 5)))) pa_nil))))))))), ?_⟩)
  · obtain ⟨ca, wa, n, R, C, A, cs, rfl, _⟩ := h; rfl
  · obtain ⟨ca, wa, n, R, C, M, cs, rfl, hC, hS, hn, hL, hB, hF, qW, qP⟩ := h
    have le1 : facP n C ≤ n * facP n C := Nat.le_mul_of_pos_left _ hn
    have bnd : ∀ S, Inv1 n R M S → Bnd S := fun S I => ⟨fun i j => Nat.lt_of_le_of_lt (Nat.le_trans (I.absT hB i j) le1) hF, fun j => Nat.lt_of_le_of_lt (I.absC hB j) hF, Nat.lt_of_le_of_lt (Nat.le_trans (I.absD hB) le1) hF⟩
    have I0 := init_inv hS
    obtain ⟨m0, Sf, hm, hf⟩ := ends I0 hS.U
    refine ⟨_, rfl, _, rfl, fun x dx nx ndx ne => ?_⟩
    have nx2 : upd H dx (.own x) x = none := by rw [upd_ne (fun z => ne z.symm)]; exact nx
    refine ⟨H, x, dx, ca, wa, n, R, M, cs, rfl, upd_same, nx, (same_new ndx).trans (same_new nx2), hC, hS.U, hL, fun H1 pb pr pc us s1 n0b t => ⟨rfl, ?_⟩⟩
    refine ⟨_, rfl, x, dx, _, rfl, t.ins, rfl, ⟨x, pb, dx, pr, pc, us, n, R, _, rfl, t, by omega, ?_⟩⟩
    refine ⟨fun m σ H' => ∃ k S pr pc us o4 o5 o6, m = m0 - k ∧ k ≤ m0 ∧ iterT n R (init n R M) k = some S ∧ σ = [some (.ref ca), some (.ref wa), some (.ref x), some (oV (enter R S)), o4, o5, o6] ∧ Same H H' ∧ TabAt H' x pb n R S dx pr pc us,
      ⟨m0, 0, _, pr, pc, us, _, _, _, rfl, Nat.zero_le _, rfl, rfl, s1, t⟩, ?_⟩
    rintro m σ H2 ⟨k, S, pr2, pc2, us2, o4, o5, o6, rfl, hk, hit, rfl, s2, t2⟩
    have I2 := iter_inv I0 hit
    refine ⟨_, rfl, rfl, _, rfl, lastB _ (fun l => ?_) (fun l => ?_)⟩
    · cases he : enter R S with
      | none => rw [he] at l; exact absurd l (by decide)
      | some p =>
        obtain ⟨r, hr2⟩ := I2.go he
        have hkm : k < m0 := by
          rcases Nat.lt_or_ge k m0 with z | z
          · exact z
          · have : k = m0 := by omega
            rw [this, hm] at hit
            have e := Option.some.inj hit
            rw [e, he] at hf; cases hf
        have hp := (enter_some he).1
        have hrn := (leave_some hr2).1
        have hstep : stepT n R S = some (pivot n R S r p) := by
          unfold stepT
          rw [he]
          show ((leave n R S p).map fun r => pivot n R S r p) = _
          rw [hr2]; rfl
        have hit' : iterT n R (init n R M) (k + 1) = some (pivot n R S r p) := by
          show (iterT n R (init n R M) k).bind (stepT n R) = _
          rw [hit]; exact hstep
        refine ⟨fun σ' H' => ∃ S' pr pc us o4 o5 o6, iterT n R (init n R M) (k + 1) = some S' ∧ σ' = [some (.ref ca), some (.ref wa), some (.ref x), some (oV (enter R S')), o4, o5, o6] ∧ Same H H' ∧ TabAt H' x pb n R S' dx pr pc us,
          fun σ' H' ⟨S', pr', pc', us', p4, p5, p6, h1, h2, h3, h4⟩ => ⟨m0 - (k + 1), by omega, k + 1, S', pr', pc', us', p4, p5, p6, rfl, by omega, h1, h2, h3, h4⟩, ?_⟩
        refine ⟨_, rfl, x, dx, _, rfl, t2.ins, rfl, _, rfl, x, dx, _, rfl, t2.ins, rfl, _, rfl, ?_⟩
        refine ⟨x, pb, dx, pr2, pc2, us2, n, R, p, S, rfl, t2, by omega, bnd S I2, fun H3 s3 => ?_⟩
        rw [hr2]
        refine ⟨_, rfl, ?_⟩
        refine ⟨H, x, pb, dx, pr2, pc2, us2, n, R, r, p, S, rfl, t2.mono s3, hrn, by omega, nx, n0b, s2.trans s3, bnd S I2, I2.Dpos, hL, fun H4 pr4 pc4 us4 s4 t4 => ?_⟩
        refine ⟨_, rfl, x, dx, _, rfl, t4.ins, rfl, ⟨x, pb, dx, pr4, pc4, us4, n, R, _, rfl, t4, by omega, ?_⟩⟩
        exact ⟨_, pr4, pc4, us4, _, _, _, hit', rfl, s4, t4⟩
    · have he : enter R S = none := by
        cases e : enter R S with
        | none => rfl
        | some p => rw [e] at l; exact absurd l (by simp [oV])
      refine ⟨_, rfl, x, _, dx, _, _, rfl, t2.ins, T.cls, T.no_cost, rfl, _, rfl, pc2, _, _, _, rfl, rfl, SqL.of t2.cost, fl_last, rfl, _, rfl, lastB _ (fun c => ?_) (fun c => ?_)⟩
      · have c0 : S.c (R + n) = 0 := V.int.inj (of_decide_eq_true c)
        refine ⟨szl (by decide), fun p1 np1 => ?_⟩
        refine ⟨_, rfl, x, _, dx, _, _, rfl, (same_new np1) _ _ t2.ins, T.cls, T.no_real, rfl, p1, _, _, rfl, rfl, upd_same, by omega, by omega, szl (by simp; omega), fun W nW => ?_⟩
        rw [show ((R : Int)).toNat = R from rfl, rep_fl]
        have s5 : Same H2 (upd (upd H2 p1 (.lst [.int 0])) W (.lst (FL R (fun _ => 0)))) := (same_new np1).trans (same_new nW)
        have nW2 : H2 W = none := noneBack nW (same_new np1)
        have eW : upd (upd H2 p1 (.lst [.int 0])) W (.lst (FL R (fun _ => 0))) W = some (.lst (FL R (fun _ => 0))) := upd_same
        generalize upd (upd H2 p1 (.lst [.int 0])) W (.lst (FL R (fun _ => 0))) = H5 at s5 eW ⊢
        have t5 := t2.mono s5
        refine ⟨_, rfl, x, _, dx, _, _, rfl, t5.ins, T.cls, T.no_basis, rfl, pb, _, rfl, SqL.of t5.basis, ?_⟩
        refine for_it (n := n) (G := fun Hh => SqL K Hh pb (FL n (fun k => (S.B k : Int)))) (Y := YPair (fun i => some (.int (i : Nat))) (fun i => (FL n (fun k => (S.B k : Int)))[i]?))
          (by have e := walk_enumB (k := true) (K := K) (a := pb) (xs := FL n (fun k => (S.B k : Int))); rw [fl_len] at e; exact e)
          (fun i σ H' => (∃ o5 o6, σ = [some (.ref ca), some (.ref wa), some (.ref x), some .non, some (.ref W), o5, o6]) ∧ Same H2 H' ∧ H' W = some (.lst (FL R (fun j => sN i (fun k => if S.B k = j then S.T k (R + n) else 0))))) ?_ ?_ ?_ ?_
        · rw [he]; exact ⟨⟨_, _, rfl⟩, s5, eW⟩
        · rintro i σ H' _ ⟨_, s6, _⟩
          exact SqL.of (t2.mono s6).basis
        · rintro i v σ H6 H7 hi ⟨⟨o5, o6, rfl⟩, s6, eW6⟩ ⟨A', y, z, rfl, nA, rfl, ey, ez⟩
          cases (Option.some.inj ey)
          have ez2 : (FL n (fun k => (S.B k : Int)))[i]? = some z := ez
          rw [fl_get hi] at ez2
          cases (Option.some.inj ez2)
          have s7 : Same H2 (upd H6 A' (.tup [.int (i : Int), .int (S.B i : Int)])) := s6.trans (same_new nA)
          have eW7 := (same_new (o := .tup [.int (i : Int), .int (S.B i : Int)]) nA) _ _ eW6
          have t7 := t2.mono s7
          generalize hH7 : upd H6 A' (.tup [.int (i : Int), .int (S.B i : Int)]) = H7 at s7 eW7 t7 ⊢
          refine g_pair (by rw [← hH7]; exact .inl (.inl upd_same)) ?_
          refine ⟨_, rfl, _, rfl, x, _, dx, _, _, rfl, t7.ins, T.cls, T.no_real, rfl, _, _, rfl, rfl, _, rfl, lastB _ (fun l2 => ?_) (fun l2 => ?_)⟩
          · have hlt : S.B i < R := by have := of_decide_eq_true l2; omega
            obtain ⟨ai, eai, nai, hai⟩ := t7.row i hi
            refine ⟨_, rfl, x, _, dx, _, _, rfl, t7.ins, T.cls, T.no_rows, rfl, _, rfl, pr2, _, _, _, rfl, rfl, SqL.of t7.rows, atI_nat eai, _, rfl, ai, _, _, _, rfl, rfl, SqL.of hai, fl_last, ?_⟩
            refine ⟨_, rfl, _, rfl, W, _, _, S.B i, rfl, rfl, eW7, ixN_nat (by rw [fl_len]; exact hlt), ?_⟩
            rw [fl_set hlt]
            refine ⟨⟨_, _, rfl⟩, same_upd s7 nW2, ?_⟩
            rw [upd_same]
            refine congrArg (fun z => some (HO.lst z)) (fl_congr fun j hj => ?_)
            show _ = sN i _ + (if S.B i = j then S.T i (R + n) else 0)
            by_cases e : j = S.B i
            · rw [if_pos e, if_pos e.symm, sN_zero fun k hk => if_neg (fun z => ?_), Int.zero_add]
              have := I2.binj (by omega) hi (z.trans e)
              omega
            · rw [if_neg e, if_neg (fun z => e z.symm), Int.add_zero]
          · have hlt : ¬ S.B i < R := by have := of_decide_eq_false l2; omega
            refine ⟨⟨_, _, rfl⟩, s7, ?_⟩
            rw [eW7]
            refine congrArg (fun z => some (HO.lst z)) (fl_congr fun j hj => ?_)
            show _ = sN i _ + (if S.B i = j then S.T i (R + n) else 0)
            rw [if_neg (by omega), Int.add_zero]
        · rintro σ H6 ⟨⟨o5, o6, rfl⟩, s6, eW6⟩
          have t6 := t2.mono s6
          refine ⟨_, rfl, _, rfl, x, _, dx, _, _, rfl, t6.ins, T.cls, T.no_divisor, rfl, szl (show 2 ≤ 1000000 by decide), fun tp ntp => ?_⟩
          refine qW _ tp W (wts n R S) S.D (s2.trans (s6.trans (same_new ntp))) (.inl (.inl upd_same)) ?_ ⟨I2.Dpos, Nat.le_trans (I2.absD hB) le1, I2.wts_nn, I2.absW hB, fun y hy => I2.weights c0 hy⟩
          rw [upd_ne (ne_of_none eW6 ntp)]
          exact eW6
      · have c0 : S.c (R + n) ≠ 0 := fun z => of_decide_eq_false c (congrArg V.int z)
        refine ⟨_, rfl, x, _, dx, _, _, rfl, t2.ins, T.cls, T.no_cost, rfl, _, rfl, x, _, dx, _, _, rfl, t2.ins, T.cls, T.no_real, rfl, (R : Int), rfl, _, rfl, _, rfl, pc2, _, rfl, SqL.of t2.cost, fun L nL => ?_⟩
        rw [show (-1 : Int) = -1 from rfl, cut_fl]
        refine ⟨L, rfl, ⟨_, SqL.of upd_same⟩, fun W nW => ?_⟩
        have cp : 0 < S.c (R + n) := by
          have e := I2.cost (R + n) (Nat.le_refl _)
          have : 0 ≤ S.c (R + n) := by
            rw [e]
            refine sN_nonneg fun k hk => ?_
            split
            · exact I2.rhs k hk
            · exact Int.le_refl _
          omega
        refine lc_fl (K := K) nW (n := n) (G := fun Hh => SqL K Hh L (FL n (fun k => S.c (R + k)))) (Y := YAt (FL n (fun k => S.c (R + k)))) (by have e := walk_list (K := K) (a := L) (xs := FL n (fun k => S.c (R + k))); rw [fl_len] at e; exact e) (fun k => - S.c (R + k)) (by omega) (fun Hh s => SqL.of (s _ _ upd_same)) ?_ ?_
        · rintro j v Hg Hk Q' hj s5 ⟨rfl, ev⟩ q'
          rw [fl_get hj] at ev
          cases (Option.some.inj ev)
          exact ⟨rfl, _, rfl, _, rfl, q' _ (Same.refl _)⟩
        · intro H5 s5 eW
          refine ⟨szl (show 2 ≤ 1000000 by decide), fun tp ntp => ?_⟩
          refine qP _ tp W (fun k => S.c (R + k)) (s2.trans ((same_new nL).trans (s5.trans (same_new ntp)))) (.inl (.inl upd_same)) ?_ ⟨fun k => I2.absC hB _, fun j hj => ?_, ?_⟩
          · rw [upd_ne (ne_of_none eW ntp)]; exact eW
          · rw [← I2.crow hS.U (by omega)]
            have := enter_none he j hj
            omega
          · rw [← I2.crow hS.U (Nat.le_refl _)]
            exact cp
end
end K28
end
section
set_option Elab.async false
set_option linter.all false
set_option maxRecDepth 100000
set_option maxHeartbeats 4000000
set_option exponentiation.threshold 2000
namespace K28
open PySem L2
section
variable {K : PySem.W.Frag} {H H' : Hp}
theorem RowsL.mono (e : Same H H') : ∀ {vs : List V} {rs : List (List Int)}, RowsL H vs rs → RowsL H' vs rs
  | [], _, h => h
  | _ :: _, _, ⟨a, r, rs', h1, h2, h3, h4⟩ => ⟨a, r, rs', h1, h2, e _ _ h3, RowsL.mono e h4⟩
theorem RowsL.append : ∀ {vs us : List V} {rs qs : List (List Int)}, RowsL H vs rs → RowsL H us qs → RowsL H (vs ++ us) (rs ++ qs)
  | [], _, _, _, h, h' => by rw [show _ = [] from h]; exact h'
  | _ :: _, _, _, _, ⟨a, r, rs', h1, h2, h3, h4⟩, h' => by rw [h1]; exact ⟨a, r, _, rfl, h2, h3, RowsL.append h4 h'⟩
theorem RowsL.len : ∀ {vs : List V} {rs : List (List Int)}, RowsL H vs rs → vs.length = rs.length
  | [], _, h => by rw [show _ = [] from h]; rfl
  | _ :: _, _, ⟨a, r, rs', h1, h2, h3, h4⟩ => by rw [h1, List.length_cons, List.length_cons, RowsL.len h4]
theorem RowsL.get : ∀ {vs : List V} {rs : List (List Int)} {j : Nat}, RowsL H vs rs → j < rs.length → ∃ a, vs[j]? = some (.ref a) ∧ H a = some (.lst ((rs.getD j []).map V.int))
  | [], _, _, h, hj => by rw [show _ = [] from h] at hj; simp at hj
  | _ :: _, _, 0, ⟨a, r, rs', h1, h2, h3, h4⟩, hj => ⟨a, by rw [h2]; rfl, by rw [h1]; exact h3⟩
  | _ :: _, _, j + 1, ⟨a, r, rs', h1, h2, h3, h4⟩, hj => by
    rw [h1] at hj ⊢
    obtain ⟨b, e1, e2⟩ := RowsL.get (j := j) h4 (by simpa using hj)
    exact ⟨b, by rw [List.getElem?_cons_succ]; exact e1, e2⟩
theorem fl_of {r : List Int} {n : Nat} (h : r.length = n) : r.map V.int = FL n (fun x => r.getD x 0) := by
  unfold FL FI
  congr 1
  have e := map_at r 0 (fun x => x)
  rw [h, List.map_id'] at e
  exact e.symm
theorem RowsL.upd {D : Addr} {L ys : List V} (hD : H D = some (.lst L)) : ∀ {vs : List V} {rs : List (List Int)}, RowsL H vs rs → (∀ a, V.ref a ∈ vs → a ≠ D) → RowsL (upd H D (.lst ys)) vs rs
  | [], _, h, _ => h
  | _ :: _, _, ⟨a, r, rs', h1, h2, h3, h4⟩, n => ⟨a, r, rs', h1, h2, by rw [upd_ne (n a (by rw [h2]; exact List.mem_cons_self ..))]; exact h3, RowsL.upd hD h4 fun b hb => n b (List.mem_cons_of_mem _ hb)⟩
/-- a comprehension whose items are new lists of ints -/
theorem lc_rows {J : It} {n : Nat} {G : Hp → Prop} {Y : Nat → Hp → V → Hp → Prop} {σ : L2.St} {H1 : Hp} {g : TG} {te : TE} {vs : List Nat}
    {D : Addr} (hD : H1 D = none) {Qd : Hp → Prop} (wk : Walk J n G Y) (f : Nat → List Int) (hz : n ≤ 100000) (hG : ∀ H', Same H1 H' → G H')
    (body : ∀ i x H' H2 (Q' : VK), i < n → Same H1 H' → Y i H' x H2 → (∀ a H4, Same H' H4 → H' a = none → H4 a = some (.lst ((f i).map V.int)) → Q' (.ref a) H4) → EltK σ vs g te x H2 Q')
    (post : ∀ H' ys, Same H1 H' → H' D = some (.lst ys) → RowsL H' ys ((List.range n).map f) → (∀ a, V.ref a ∈ ys → a ≠ D) → Qd H') : LcGoal D J H1 σ vs g tYes te Qd := by
  refine lc_it wk (fun i H => Same H1 H ∧ ∃ ys, H D = some (.lst ys) ∧ ys.length = i ∧ RowsL H ys ((List.range i).map f) ∧ ∀ a, V.ref a ∈ ys → a ≠ D) ⟨same_new hD, [], upd_same, rfl, rfl, fun a h => by cases h⟩ (fun i H _ h => hG H h.1) ?_ ?_
  · rintro i x H H' hi ⟨s1, ys, eD, ly, rl, nd⟩ hy
    refine body i x H H' _ hi s1 hy fun a H4 s4 na ha => ?_
    have eD4 := s4 _ _ eD
    have naD : a ≠ D := fun z => by rw [z, eD] at na; cases na
    refine ⟨ys, eD4, szlt (by omega), same_upd (s1.trans s4) hD, ys ++ [.ref a], upd_same, by rw [List.length_append, ly]; rfl, ?_, ?_⟩
    · rw [List.range_succ, List.map_append]
      refine RowsL.append ((RowsL.mono s4 rl).upd eD4 nd) ⟨a, f i, [], rfl, rfl, by rw [upd_ne naD]; exact ha, rfl⟩
    · intro b hb
      rcases List.mem_append.mp hb with h | h
      · exact nd b h
      · have := List.mem_singleton.mp h
        rw [V.ref.inj this]; exact naD
  · rintro H ⟨s1, ys, eD, ly, rl, nd⟩
    exact post H ys s1 eD rl nd
end
section
variable {P : Program} {w : World} {K : PySem.W.Frag} {mg : Str → Option Value} {base : Heap}
/-! divided -/
theorem sc_divided : FnScope ["numbers", "common", "number"] ["numbers"] (defScope (top 18)) := ⟨rfl, rfl, rfl, by decide +kernel, rfl, by decide +kernel, by decide +kernel⟩
def sp_divided (K : PySem.W.Frag) : Sp := fun vs H Q _ => ∃ (a : Addr) (xs : List Int), vs = [.ref a] ∧ SqL K H a (xs.map V.int) ∧ xs.length ≤ 1000 ∧ (∀ x ∈ xs, x.natAbs < 2 ^ 500) ∧ ∀ v H', Same H H' → Den K H' (wd (divd xs)) v → Q v H'
theorem ok_divided (T : Tx K mg) : FnOk P w K mg base CX0 1 256 (fdA K 256) ["numbers"] (sp_divided K) := by
  refine (f_divided T).ok sc_divided (fun vs H Q E h => ?_) (fun cdv A outer s H vs Q E hr h => ⟨_, PSs.nox (pss_cons (ps_set (i := 1) sc_divided.nd rfl (.inr rfl) pe_int)
  (pss_cons (ps_for PassesOwn.never rfl (k_pil K (pv 0)) (pg_name (i := 2) sc_divided.nd rfl (.inl rfl) (hf := (.inl rfl)))
    (pss_one (ps_set (i := 1) sc_divided.nd rfl (.inr rfl) (pe_callBfun cr_gcd (by rfl) T.gcd (pa_cons (pv 1) (pa_cons (pv 2) pa_nil))))))
  (pss_one (ps_ret (pe_ifExp (pt_cmpR op_eq (pv 1) pe_int (nomark _)) (pe_callTy (k_tuple K) (by rfl) (free_tuple T) (by decide +kernel) (pa_cons (pv 0) pa_nil)) (pe_callTy (k_tuple K) (by rfl) (free_tuple T) (by decide +kernel) (pa_cons (pe_lc (own := [("number", 2)]) rfl sc_divided.nd (k_pil K (pv 0)) (blkOk_by (N := ["numbers", "common", "number"]) (sc := (defScope (top 18))) (by decide +kernel)) (fun _ _ _ _ _ => (pg_name (i := 2) sc_divided.nd rfl (.inl rfl) (hf := (.inr rfl)))) (fun _ _ _ _ _ => pts_nil) (fun _ _ _ _ _ => (pe_op op_fdivW (pv 2) (pv 1)))) pa_nil))))))), ?_⟩)
  · obtain ⟨a, xs, rfl, _⟩ := h; rfl
  · obtain ⟨a, xs, rfl, hA, hz, hb, q⟩ := h
    refine ⟨_, rfl, a, rfl, ⟨_, hA⟩, ?_⟩
    refine for_it (walk_list (K := K) (a := a) (xs := xs.map V.int)) (fun i σ H' => H' = H ∧ ∃ o, σ = [some (.ref a), some (.int ((xs.take i).foldl (fun c x => ((Int.gcd c x : Nat) : Int)) 0)), o]) ⟨rfl, _, rfl⟩ (fun i σ H' _ h => by rw [h.1]; exact hA) ?_ ?_
    · rintro i v σ H' H2 hi ⟨rfl, o, rfl⟩ ⟨rfl, ev⟩
      obtain ⟨rfl, hi2⟩ := int_get ev
      refine ⟨_, rfl, _, rfl, _, _, rfl, rfl, some (.int (xs.getD i 0)), ?_⟩
      rw [List.take_add_one, List.foldl_append, List.getElem?_eq_getElem hi2, getD_of hi2]
      rfl
    · rintro σ H' ⟨rfl, o, rfl⟩
      rw [List.length_map, List.take_length]
      refine ⟨_, rfl, rfl, _, rfl, lastB _ (fun c => ?_) (fun c => ?_)⟩
      · have c0 : gcdL xs = 0 := V.int.inj (of_decide_eq_true c)
        refine ⟨_, rfl, a, _, rfl, .inl ⟨hA, fun l nl => ?_⟩⟩
        refine q _ _ (same_new nl) (den_wd ?_)
        rw [show divd xs = xs from if_pos c0]
        exact .inl (.inl upd_same)
      · have c0 : gcdL xs ≠ 0 := fun z => of_decide_eq_false c (congrArg V.int z)
        obtain ⟨g0, gB⟩ := gcd_pos c0
        refine ⟨_, rfl, a, rfl, ⟨_, hA⟩, fun D nD => lc_lstI nD hA (fun x => x / gcdL xs) (by omega) (fun _ => rfl) (fun x Q' H2 hx s2 q' => ?_) (fun H' s2 eD => ?_)⟩
        · exact ⟨_, rfl, _, rfl, _, _, rfl, rfl, wide_div g0 (gB _ hb) (by decide) (by decide), q'⟩
        · refine ⟨D, _, rfl, .inl ⟨SqL.of eD, fun l nl => ?_⟩⟩
          refine q _ _ (s2.trans (same_new nl)) (den_wd ?_)
          rw [show divd xs = xs.map (· / gcdL xs) from if_neg c0]
          exact .inl (.inl upd_same)
/-! columns_for -/
theorem sc_columns_for : FnScope ["width", "walls", "stricts", "more", "found", "wall"] ["width", "walls", "stricts", "more"] (defScope (top 19)) := ⟨rfl, rfl, rfl, by decide +kernel, rfl, by decide +kernel, by decide +kernel⟩
theorem Den.nil {H : Hp} {v : V} (h : Den K H (.t []) v) : ∃ a, v = .ref a ∧ SqT K H a [] := by
  obtain ⟨a, vs, e, hT, hL⟩ := h
  rw [show vs = [] from hL] at hT
  exact ⟨a, e, hT⟩
/-- rows as data -/
abbrev rowsD (rows : List (List Int)) : Dt := .t (rows.map wd)
theorem rowsD_at {H : Hp} {rows : List (List Int)} {us : List V} {i : Nat} {v : V} (h : DenL K H (rows.map wd) us) (e : us[i]? = some v) : i < rows.length ∧ Den K H (wd (rows.getD i [])) v := by
  obtain ⟨d, ed, dd⟩ := h.at e
  rw [List.getElem?_map] at ed
  cases er : rows[i]? with
  | none => rw [er] at ed; cases ed
  | some r =>
    rw [er] at ed
    have e2 := Option.some.inj ed
    have hi := (List.getElem?_eq_some_iff.mp er).1
    have e3 : rows.getD i [] = r := by rw [List.getD_eq_getElem?_getD, er]; rfl
    refine ⟨hi, ?_⟩
    rw [e3, show wd r = d from e2]; exact dd
theorem use_list {H : Hp} {p : Addr} {ys : List V} {Q : VK} (h : SqT K H p ys) (q : ∀ l, H l = none → Q (.ref l) (upd H l (.lst ys))) : rLstQ K [.ref p] H Q := ⟨p, ys, rfl, .inr h, q⟩
def sp_columns_for (K : PySem.W.Frag) : Sp := fun vs H Q _ => ∃ (n : Nat) (u v z : V) (walls more : List (List Int)), vs = [.int (n : Int), u, v, z] ∧ Den K H (rowsD walls) u ∧ Den K H (.t []) v ∧ Den K H (rowsD more) z ∧ 1 ≤ n ∧ n ≤ 100 ∧ walls.length ≤ 1000 ∧ more.length ≤ 1000 ∧
  (∀ r ∈ walls, r.length ≤ 1000) ∧ (∀ r ∈ more, r.length ≤ 1000) ∧ ∀ ca cs H', Same H H' → H' ca = some (.lst cs) → RowsL H' cs (cols3 n walls more) → Q (.ref ca) H'
theorem rows_at {rows : List (List Int)} (F : List Int → List Int) : (List.range rows.length).map (fun i => F (rows.getD i [])) = rows.map F := map_at rows [] F
theorem ok_columns_for (T : Tx K mg) : FnOk P w K mg base CX0 2 261 (fdA K 261) ["width", "walls", "stricts", "more"] (sp_columns_for K) := by
  refine (f_columns_for T).ok sc_columns_for (fun vs H Q E h => ?_) (fun cdv A outer s H vs Q E hr h => ⟨_, PSs.nox (pss_cons (ps_setLc (i := 4) (own := [("wall", 5)]) rfl sc_columns_for.nd rfl rfl (sw_true rfl rfl rfl (by decide +kernel)) (k_pit K (pv 1)) (blkOk_by (N := ["width", "walls", "stricts", "more", "found", "wall"]) (sc := (defScope (top 19))) (by decide +kernel)) (fun _ _ _ _ _ => (pg_name (i := 5) sc_columns_for.nd rfl (.inl rfl) (hf := (.inr rfl)))) (fun _ _ _ _ _ => pts_nil) (fun _ _ _ _ _ => (pe_op op_cat (pe_callTy (k_list K) (by rfl) (free_list T) (by decide +kernel) (pa_cons (pv 5) pa_nil)) (pe_lst (pa_cons pe_int pa_nil)))))
  (pss_one (ps_ret (pe_op op_cat (pv 4) (pe_lc (own := [("wall", 5)]) rfl sc_columns_for.nd (k_pit K (pe_op (k_cat K) (pe_op (k_cat K) (pe_callTy (k_tuple K) (by rfl) (free_tuple T) (by decide +kernel) (pa_cons (pv 2) pa_nil)) (pe_tup (pa_cons (pe_call (ok_bound_wall T) (hr.mono (by decide)) (by rfl) (g_bound_wall T) (f_bound_wall T).kp (b_bound_wall T) .nil pass0 (pa_cons (pv 0) pa_nil)) pa_nil))) (pe_callTy (k_tuple K) (by rfl) (free_tuple T) (by decide +kernel) (pa_cons (pv 3) pa_nil)))) (blkOk_by (N := ["width", "walls", "stricts", "more", "found", "wall"]) (sc := (defScope (top 19))) (by decide +kernel)) (fun _ _ _ _ _ => (pg_name (i := 5) sc_columns_for.nd rfl (.inl rfl) (hf := (.inr rfl)))) (fun _ _ _ _ _ => pts_nil) (fun _ _ _ _ _ => (pe_op op_cat (pe_callTy (k_list K) (by rfl) (free_list T) (by decide +kernel) (pa_cons (pv 5) pa_nil)) (pe_lst (pa_cons pe_int pa_nil))))))))), ?_⟩)
  · obtain ⟨n, u, v, z, walls, more, rfl, _⟩ := h; rfl
  · obtain ⟨n, u, v, z, walls, more, rfl, hu, hv, hz, hn, hn2, l1, l2, l3, l4, q⟩ := h
    obtain ⟨a, us, rfl, aT, aL⟩ := hu
    obtain ⟨b, rfl, bT⟩ := hv.nil
    obtain ⟨c, ws, rfl, cT, cL⟩ := hz
    have lu := aL.length
    rw [List.length_map] at lu
    -- one item
    have item : ∀ (N : Nat) (H' : Hp) (p : Addr) (r : List Int) (i : Int) (Q' : VK), SqT K H' p (r.map V.int) → r.length ≤ 1000 →
        (∀ a H4, Same H' H4 → H' a = none → H4 a = some (.lst ((r ++ [i]).map V.int)) → Q' (.ref a) H4) →
        rLstQ K [.ref p] H' fun x H1 => [V.int i].length ≤ sizeLine ∧ ∀ p1, H1 p1 = none → rCat x (.ref p1) (upd H1 p1 (.lst [V.int i])) Q' := by
      intro N H' p r i Q' hp hr q'
      refine use_list hp fun l nl => ⟨szl (show 1 ≤ 1000000 by decide), fun p1 np1 => ?_⟩
      refine ⟨l, p1, _, _, rfl, rfl, (by rw [upd_ne (ne_of_none upd_same np1)]; exact upd_same), upd_same, szl (by simp; omega), fun p2 np2 => ?_⟩
      have s3 := (same_new (o := .lst (r.map V.int)) nl).trans ((same_new (o := .lst [.int i]) np1).trans (same_new (o := .lst (r.map V.int ++ [.int i])) np2))
      refine q' p2 _ s3 ?_ (by rw [upd_same, List.map_append]; rfl)
      exact noneBack np2 ((same_new nl).trans (same_new np1))
    refine ⟨_, rfl, a, rfl, ⟨us, aT⟩, fun D nD => lc_rows nD (n := walls.length) (G := fun Hh => SqT K Hh a us) (Y := YAt us) (by rw [← lu]; exact walk_tup) (fun i => walls.getD i [] ++ [0]) (by omega) (fun Hh s => Same.ext s _ _ aT) ?_ ?_⟩
    · rintro i x H' H2 Q' hi s1 ⟨rfl, ex⟩ q'
      obtain ⟨_, dx⟩ := rowsD_at aL ex
      obtain ⟨p, rfl, pT⟩ := (dx.mono (Same.ext s1)).wd
      refine ⟨rfl, _, rfl, ?_⟩
      exact item 0 _ p _ _ _ pT (l3 _ (by rw [getD_of hi]; exact List.getElem_mem hi)) q'
    · intro H1 ys s1 eD rl nd
      rw [rows_at (fun r => r ++ [0])] at rl
      refine ⟨_, rfl, _, rfl, b, _, rfl, .inr ⟨Same.ext s1 _ _ bT, ?_⟩⟩
      refine ⟨_, rfl, n, rfl, hn, hn2, fun bw H2 s2 dbw => ⟨szl (show 1 ≤ 1000000 by decide), fun t nt => ?_⟩⟩
      refine use_cat (Same.ext (s1.trans (s2.trans (same_new nt))) _ _ bT) (.inl (.inl upd_same)) (by simp) fun e H3 s3 he => ?_
      have s13 : Same H1 H3 := s2.trans ((same_new nt).trans s3)
      refine ⟨_, rfl, c, _, rfl, .inr ⟨Same.ext (s1.trans s13) _ _ cT, ?_⟩⟩
      have lm := cL.length
      rw [List.length_map] at lm
      refine use_cat he (Same.ext (s1.trans s13) _ _ cT) (by simp; omega) fun e2 H4 s4 he2 => ?_
      have s14 : Same H1 H4 := s13.trans s4
      have dL : DenL K H4 ((bwall n :: more).map wd) ([] ++ [bw] ++ ws) :=
        denL_cons (dbw.mono (Same.ext ((same_new nt).trans (s3.trans s4)))) (cL.mono (Same.ext (s1.trans s14)))
      refine ⟨e2, rfl, ⟨_, he2⟩, fun D2 nD2 => lc_rows nD2 (n := (bwall n :: more).length) (G := fun Hh => SqT K Hh e2 ([] ++ [bw] ++ ws)) (Y := YAt ([] ++ [bw] ++ ws)) (by rw [show (bwall n :: more).length = ([] ++ [bw] ++ ws).length by simp; omega]; exact walk_tup) (fun i => (bwall n :: more).getD i [] ++ [1]) (by simp; omega) (fun Hh s => Same.ext s _ _ he2) ?_ ?_⟩
      · rintro i x H' H5 Q' hi s5 ⟨rfl, ex⟩ q'
        obtain ⟨_, dx⟩ := rowsD_at dL ex
        obtain ⟨p, rfl, pT⟩ := (dx.mono (Same.ext s5)).wd
        refine ⟨rfl, _, rfl, ?_⟩
        refine item 0 _ p _ _ _ pT ?_ q'
        rw [getD_of hi]
        rcases List.mem_cons.mp (List.getElem_mem hi) with z | z
        · rw [z, bwall_len hn]; omega
        · exact l4 _ z
      · intro H5 zs s5 eD2 rl2 nd2
        rw [rows_at (fun r => r ++ [1])] at rl2
        have ly := rl.len
        have lz := rl2.len
        rw [List.length_map] at ly lz
        refine ⟨D, D2, _, _, rfl, rfl, (s14.trans s5) _ _ eD, eD2, szl (by simp at lz; omega), fun D3 nD3 => ?_⟩
        refine q D3 _ _ (s1.trans (s14.trans (s5.trans (same_new nD3)))) upd_same ?_
        exact RowsL.append (RowsL.mono ((s14.trans s5).trans (same_new nD3)) rl) (RowsL.mono (same_new nD3) rl2)
theorem sp_step {sp : Sp} {vs : List V} {H1 H2 : Hp} {Q : VK} {E : XK} {p : Addr} {o : Option HO} (s : Same H1 H2) (e : H2 p = o) (key : ∀ H3, Same H1 H3 → H3 p = o → sp vs H3 Q E) : sp vs H2 Q E := key H2 s e
/-! paper_of -/
theorem sc_paper_of : FnScope ["width", "walls", "stricts", "more", "weights", "other"] ["width", "walls", "stricts", "more"] (defScope (top 20)) := ⟨rfl, rfl, rfl, by decide +kernel, rfl, by decide +kernel, by decide +kernel⟩
theorem rowsA_fl {rows : List (List Int)} {n j : Nat} {want : List Int} (h : j < rows.length) (hl : (rows.getD j []).length = n) : (rows.getD j []).map V.int = FL n (rowsA rows n want j) := by
  rw [fl_of hl]
  exact fl_congr fun x _ => (rowsA_row h).symm
structure PapIn (n C : Nat) (walls : List (List Int)) (wall : List Int) : Prop where
  hn : 1 ≤ n
  hn2 : n ≤ 100
  hw : ∀ r ∈ walls, r.length = n
  hl : wall.length = n
  wB : ∀ r ∈ walls, ∀ x ∈ r, x.natAbs ≤ C
  lB : ∀ x ∈ wall, x.natAbs ≤ C
  hC : 1 ≤ C
  hz : walls.length ≤ 500
  hF : (n + 1) * facP (n + 1) C < 2 ^ 500
theorem getD_abs {r : List Int} {C : Nat} (h : ∀ x ∈ r, x.natAbs ≤ C) (i : Nat) : (r.getD i 0).natAbs ≤ C := by
  by_cases hi : i < r.length
  · rw [getD_of hi]; exact h _ (List.getElem_mem hi)
  · rw [List.getD_eq_getElem?_getD, List.getElem?_eq_none (by omega)]; exact Nat.zero_le _
theorem mem_cols3 {n C : Nat} {walls : List (List Int)} {wall r : List Int} (I : PapIn n C walls wall) (h : r ∈ cols3 n walls [wall.map (fun v => -v)]) : r.length = n + 1 ∧ ∀ x, (r.getD x 0).natAbs ≤ C := by
  have hC := I.hC
  unfold cols3 at h
  have one : ∀ (q : List Int) (v : Int), q.length = n → (∀ x, (q.getD x 0).natAbs ≤ C) → v.natAbs ≤ C → (q ++ [v]).length = n + 1 ∧ ∀ x, ((q ++ [v]).getD x 0).natAbs ≤ C := fun q v h1 h2 h3 => by
    refine ⟨by rw [List.length_append, h1]; rfl, fun x => ?_⟩
    rw [snoc_get]
    split
    · exact h2 x
    · split
      · exact h3
      · exact Nat.zero_le _
  rcases List.mem_append.mp h with h | h
  · obtain ⟨q, hq, rfl⟩ := List.mem_map.mp h
    exact one q 0 (I.hw q hq) (getD_abs (I.wB q hq)) (Nat.zero_le _)
  · obtain ⟨q, hq, rfl⟩ := List.mem_map.mp h
    rcases List.mem_cons.mp hq with z | z
    · subst z
      refine one _ 1 (bwall_len I.hn) (fun x => ?_) hC
      rw [bwall_get n x I.hn]
      split
      · exact hC
      · exact Nat.zero_le _
    · have e := List.mem_singleton.mp z
      subst e
      refine one _ 1 (by rw [List.length_map]; exact I.hl) (fun x => ?_) hC
      rw [neg_get, Int.natAbs_neg]
      exact getD_abs I.lB x
abbrev bd (n C : Nat) : Nat := (n + 1) * facP (n + 1) C
def sp_paper_of (K : PySem.W.Frag) : Sp := fun vs H Q _ => ∃ (n C : Nat) (u v z : V) (walls : List (List Int)) (wall : List Int), vs = [.int (n : Int), u, v, z] ∧ Den K H (rowsD walls) u ∧ Den K H (.t []) v ∧ Den K H (rowsD [wall.map (fun v => -v)]) z ∧ PapIn n C walls wall ∧
  (∀ t H' pt, Same H H' → Den K H' (.t [.n, wd pt]) t → IsPt walls wall (bd n C) pt → Q t H') ∧
  (∀ t H' ns, Same H H' → Den K H' (.t [wd ns, .n]) t → ns.length = walls.length + 2 → IsPap walls wall (bd n C) (ns.getD (walls.length + 1) 0) (ns.getD walls.length 0) (ns.take walls.length) → Q t H')
theorem ok_paper_of (T : Tx K mg) : FnOk P w K mg base CX0 4 268 (fdA K 268) ["width", "walls", "stricts", "more"] (sp_paper_of K) := by
  refine (f_paper_of T).ok sc_paper_of (fun vs H Q E h => ?_) (fun cdv A outer s H vs Q E hr h => ⟨_, PSs.nox (pss_cons (ps_asg (pe_call (ok_solved T) (hr.mono (by decide)) (by rfl) (g_solved T) (f_solved T).kp (b_solved T) .nil pass0 (pa_cons (pe_call (ok_columns_for T) (hr.mono (by decide)) (by rfl) (g_columns_for T) (f_columns_for T).kp (b_columns_for T) .nil pass0 (pa_cons (pv 0) (pa_cons (pv 1) (pa_cons (pv 2) (pa_cons (pv 3) pa_nil))))) (pa_cons (pe_op op_cat (pe_op op_rep (pe_lst (pa_cons pe_int pa_nil)) (pv 0)) (pe_lst (pa_cons pe_int pa_nil))) pa_nil))) (k_tgt K 2 rfl (pgs_cons (pg_name (i := 4) sc_paper_of.nd rfl (.inl rfl) (hf := (.inl rfl))) (pgs_cons (pg_name (i := 5) sc_paper_of.nd rfl (.inl rfl) (hf := (.inl rfl))) pgs_nil))))
  (pss_cons (ps_if (pt_cmpR op_isN (pv 4) pe_non (nomark _)) (pss_one (ps_ret (pe_tup (pa_cons pe_non (pa_cons (pe_call (ok_divided T) (hr.mono (by decide)) (by rfl) (g_divided T) (f_divided T).kp (b_divided T) .nil pass0 (pa_cons (pe_slice (k_slL K) (pv 5) po_none (po_some (pe_un un_neg pe_int))) pa_nil)) pa_nil))))) pss_nil)
  (pss_one (ps_ret (pe_tup (pa_cons (pe_call (ok_divided T) (hr.mono (by decide)) (by rfl) (g_divided T) (f_divided T).kp (b_divided T) .nil pass0 (pa_cons (pv 4) pa_nil)) (pa_cons pe_non pa_nil))))))), ?_⟩)
  · obtain ⟨n, C, u, v, z, walls, wall, rfl, _⟩ := h; rfl
  · obtain ⟨n, C, u, v, z, walls, wall, rfl, hu, hv, hz, hI, qP, qW⟩ := h
    have hn := hI.hn
    have hn2 := hI.hn2
    have hsz := hI.hz
    refine ⟨_, rfl, _, rfl, _, rfl, _, rfl, ?_⟩
    refine ⟨n, u, v, z, walls, [wall.map (fun v => -v)], rfl, hu, hv, hz, hI.hn, hI.hn2, by omega, (show 1 ≤ 1000 by decide), fun r hr => by rw [hI.hw r hr]; omega, fun r hr => by rw [List.mem_singleton.mp hr, List.length_map, hI.hl]; omega, fun ca cs H1 s1 eca rl => ?_⟩
    -- wanted
    refine ⟨szl (show 1 ≤ 1000000 by decide), fun p1 np1 => ⟨_, rfl, p1, _, _, rfl, rfl, upd_same, by omega, by omega, szl (by simp; omega), fun p2 np2 => ⟨szl (show 1 ≤ 1000000 by decide), fun p3 np3 => ?_⟩⟩⟩
    refine ⟨p2, p3, _, _, rfl, rfl, (by rw [upd_ne (ne_of_none upd_same np3)]; exact upd_same), upd_same, szl (by simp; omega), fun wa nwa => ?_⟩
    dsimp only [tNil, List.cons_append, List.nil_append]
    refine sp_step (o := some (.lst ((wantL n).map V.int))) (p := wa) ((same_new np1).trans ((same_new np2).trans ((same_new np3).trans (same_new nwa)))) ?_ ?_
    · rw [upd_same, show ((n : Int)).toNat = n from rfl, rep_one]
      unfold wantL
      rw [List.map_append, List.map_replicate]; rfl
    · intro H2 s2 ew
      have lc : (cols3 n walls [wall.map (fun v => -v)]).length = walls.length + 2 := cols3_len
      have lw : (wantL n).length = n + 1 := by unfold wantL; simp
      have wB : ∀ x, ((wantL n).getD x 0).natAbs ≤ C := fun x => by
        rw [wantL_get]
        split
        · exact hI.hC
        · exact Nat.zero_le _
      have rl2 := RowsL.mono s2 rl
      refine ⟨ca, wa, n + 1, walls.length + 2, C, rowsA (cols3 n walls [wall.map (fun v => -v)]) (n + 1) (wantL n), cs, rfl, ⟨s2 _ _ eca, by rw [rl.len, lc], fun j hj => ?_, ?_⟩, ?_, by omega, by omega, fun j x _ _ => ?_, hI.hF, ?_, ?_⟩
      · obtain ⟨a, e1, e2⟩ := rl2.get (j := j) (by omega)
        have m := mem_cols3 hI (r := (cols3 n walls [wall.map (fun v => -v)]).getD j []) (by rw [getD_of (by omega)]; exact List.getElem_mem _)
        exact ⟨a, e1, by rw [e2, rowsA_fl (n := n + 1) (want := wantL n) (by omega) m.1]⟩
      · rw [ew, fl_of lw]
        refine congrArg (fun z => some (HO.lst z)) (fl_congr fun x _ => ?_)
        rw [← lc]
        exact rowsA_want.symm
      · rw [← lc]
        refine rowsA_start fun x _ => ?_
        rw [wantL_get]
        split <;> decide
      · exact rowsA_abs (fun r hr => (mem_cols3 hI hr).2) wB hI.hC j x
      · intro H3 t W ws D s3 hT eW S
        refine g_pair hT ?_
        refine ⟨_, rfl, rfl, _, rfl, lastB _ (fun l => absurd l (by simp)) (fun _ => ?_)⟩
        have hB : ∀ j, (ws j).natAbs < 2 ^ 500 := fun j => Nat.lt_of_le_of_lt (S.wB j) hI.hF
        refine ⟨_, rfl, ⟨W, FI (walls.length + 2) ws, rfl, SqL.of eW, ?_, ?_, fun v H4 s4 dv => ?_⟩⟩
        · unfold FI; simp; omega
        · intro x hx
          obtain ⟨j, _, rfl⟩ := List.mem_map.mp hx
          exact hB j
        · refine ⟨szl (show 2 ≤ 1000000 by decide), fun tp ntp => ?_⟩
          have lf : (FI (walls.length + 2) ws).length = walls.length + 2 := by unfold FI; simp
          have gf : ∀ j, j < walls.length + 2 → (FI (walls.length + 2) ws).getD j 0 = ws j := fun j hj => by
            unfold FI
            simp [List.getD_eq_getElem?_getD, hj]
          refine qW _ _ (divd (FI (walls.length + 2) ws)) (s1.trans (s2.trans (s3.trans (s4.trans (same_new ntp))))) (den_new ntp (denL_cons dv (denL_cons rfl denL_nil))) (by rw [divd_len, lf]) ?_
          exact pap_of hI.hn hI.hw hI.hl lf gf S
      · intro H3 t W uu s3 hT eW S
        refine g_pair hT ?_
        refine ⟨_, rfl, rfl, _, rfl, lastB _ (fun _ => ?_) (fun l => absurd l (by simp))⟩
        have hB : ∀ j, (uu j).natAbs < 2 ^ 500 := fun j => Nat.lt_of_le_of_lt (S.uB j) hI.hF
        refine ⟨_, rfl, _, rfl, _, rfl, W, _, rfl, SqL.of eW, fun p np => ?_⟩
        have ec : cutV (FL (n + 1) (fun k => - uu k)) none (some (-1)) = FL n (fun k => - uu k) := by
          have := cut_fl (R := 0) (n := n) (f := fun k => - uu k)
          have e2 : HT.sIx (n + 1) (n + 1) (some (-1)) = n := by unfold HT.sIx; simp; omega
          unfold cutV
          rw [fl_len, e2]
          apply List.ext_getElem?
          intro k
          rw [show HT.sIx (n + 1) 0 none = 0 from rfl, List.drop_zero, Nat.sub_zero]
          by_cases h : k < n
          · rw [List.getElem?_take_of_lt h, fl_get (by omega), fl_get h]
          · rw [List.getElem?_eq_none (by rw [List.length_take]; omega), List.getElem?_eq_none (by rw [fl_len]; omega)]
        rw [ec]
        refine ⟨p, FI n (fun k => - uu k), rfl, SqL.of upd_same, ?_, ?_, fun v H4 s4 dv => ?_⟩
        · unfold FI; simp; omega
        · intro x hx
          obtain ⟨j, _, rfl⟩ := List.mem_map.mp hx
          show (- uu j).natAbs < _
          rw [Int.natAbs_neg]; exact hB j
        · refine ⟨szl (show 2 ≤ 1000000 by decide), fun tp ntp => ?_⟩
          have lf : (FI n (fun k => - uu k)).length = n := by unfold FI; simp
          have gf : ∀ j, j < n → (FI n (fun k => - uu k)).getD j 0 = - uu j := fun j hj => by
            unfold FI
            simp [List.getD_eq_getElem?_getD, hj]
          refine qP _ _ (divd (FI n (fun k => - uu k))) (s1.trans (s2.trans (s3.trans ((same_new np).trans (s4.trans (same_new ntp)))))) (den_new ntp (denL_cons rfl (denL_cons dv denL_nil))) ?_
          exact pt_of hI.hn hI.hw hI.hl lf gf S
end
end K28
end
section
set_option Elab.async false
set_option linter.all false
set_option maxRecDepth 100000
set_option maxHeartbeats 4000000
set_option exponentiation.threshold 2000
namespace K28
open PySem L2
section
variable {P : Program} {w : World} {K : PySem.W.Frag} {mg : Str → Option Value} {base : Heap}
/-! unit_paper -/
theorem sc_unit_paper : FnScope ["walls", "stricts", "wall", "at", "other", "place"] ["walls", "stricts", "wall"] (defScope (top 21)) := ⟨rfl, rfl, rfl, by decide +kernel, rfl, by decide +kernel, by decide +kernel⟩
abbrev papD (m : Int) (ws : List Int) (b : Int) : Dt := .t [.i m, wd ws, .t [], .i b]
def sp_unit_paper (K : PySem.W.Frag) : Sp := fun vs H Q _ => ∃ (u v z : V) (walls : List (List Int)) (wall : List Int) (Bd : Nat), vs = [u, v, z] ∧ Den K H (rowsD walls) u ∧ Den K H (.t []) v ∧ Den K H (wd wall) z ∧ walls.length ≤ 1000 ∧ (∀ r ∈ walls, r.length ≤ 1000) ∧ wall.length ≤ 1000 ∧ 1 ≤ Bd ∧
  (∀ H', Same H H' → Q .non H') ∧ (∀ y H' m b ws, Same H H' → Den K H' (papD m ws b) y → IsPap walls wall Bd m b ws → (∃ a, y = .ref a) → Q y H')
theorem ok_unit_paper (T : Tx K mg) : FnOk P w K mg base CX0 1 273 (fdA K 273) ["walls", "stricts", "wall"] (sp_unit_paper K) := by
  refine (f_unit_paper T).ok sc_unit_paper (fun vs H Q E h => ?_) (fun cdv A outer s H vs Q E hr h => ⟨_, PSs.nox (pss_cons (ps_for PassesOwn.never rfl (k_enum K false (by rfl) (free_enumerate T) (pa_cons (pv 0) pa_nil)) (k_tgt K 2 rfl (pgs_cons (pg_name (i := 3) sc_unit_paper.nd rfl (.inr rfl) (hf := (.inl rfl))) (pgs_cons (pg_name (i := 4) sc_unit_paper.nd rfl (.inl rfl) (hf := (.inl rfl))) pgs_nil)))
    (pss_one (ps_if (pt_cmpR (k_eq K hr.units) (pv 4) (pv 2) (nomark _)) (pss_one (ps_ret (pe_tup (pa_cons pe_int (pa_cons (pe_callTy (k_tuple K) (by rfl) (free_tuple T) (by decide +kernel) (pa_cons (pe_lc (own := [("place", 5)]) rfl sc_unit_paper.nd (pi_range1 (by rfl) (free_range T) (pa_cons (pe_callB (k_len K) (by rfl) (free_len T) (by decide +kernel) (pa_cons (pv 0) pa_nil)) pa_nil)) (blkOk_by (N := ["walls", "stricts", "wall", "at", "other", "place"]) (sc := (defScope (top 21))) (by decide +kernel)) (fun _ _ _ _ _ => (pg_name (i := 5) sc_unit_paper.nd rfl (.inl rfl) (hf := (.inr rfl)))) (fun _ _ _ _ _ => pts_nil) (fun _ _ _ _ _ => (pe_callTy call_int1 (by rfl) (free_int T) (by decide +kernel) (pa_cons (pe_cmpR op_eq (pv 3) (pv 5) (nomark _)) pa_nil)))) pa_nil)) (pa_cons (pe_op (k_rep K) (pe_tup (pa_cons pe_int pa_nil)) (pe_callB (k_len K) (by rfl) (free_len T) (by decide +kernel) (pa_cons (pv 1) pa_nil))) (pa_cons pe_int pa_nil))))))) pss_nil)))
  (pss_cons (ps_for PassesOwn.never rfl (k_enum K false (by rfl) (free_enumerate T) (pa_cons (pv 1) pa_nil)) (k_tgt K 2 rfl (pgs_cons (pg_name (i := 3) sc_unit_paper.nd rfl (.inr rfl) (hf := (.inl rfl))) (pgs_cons (pg_name (i := 4) sc_unit_paper.nd rfl (.inl rfl) (hf := (.inl rfl))) pgs_nil)))
    (pss_one (ps_if (pt_cmpR (k_eq K hr.units) (pv 4) (pv 2) (nomark _)) (pss_one (ps_ret (pe_tup (pa_cons pe_int (pa_cons (pe_op (k_rep K) (pe_tup (pa_cons pe_int pa_nil)) (pe_callB (k_len K) (by rfl) (free_len T) (by decide +kernel) (pa_cons (pv 0) pa_nil))) (pa_cons (pe_callTy (k_tuple K) (by rfl) (free_tuple T) (by decide +kernel) (pa_cons (pe_lc (own := [("place", 5)]) rfl sc_unit_paper.nd (pi_range1 (by rfl) (free_range T) (pa_cons (pe_callB (k_len K) (by rfl) (free_len T) (by decide +kernel) (pa_cons (pv 1) pa_nil)) pa_nil)) (blkOk_by (N := ["walls", "stricts", "wall", "at", "other", "place"]) (sc := (defScope (top 21))) (by decide +kernel)) (fun _ _ _ _ _ => (pg_name (i := 5) sc_unit_paper.nd rfl (.inl rfl) (hf := (.inr rfl)))) (fun _ _ _ _ _ => pts_nil) (fun _ _ _ _ _ => (pe_callTy call_int1 (by rfl) (free_int T) (by decide +kernel) (pa_cons (pe_cmpR op_eq (pv 3) (pv 5) (nomark _)) pa_nil)))) pa_nil)) (pa_cons pe_int pa_nil))))))) pss_nil)))
  (pss_one (ps_ret pe_non)))), ?_⟩)
  · obtain ⟨u, v, z, walls, wall, Bd, rfl, _⟩ := h; rfl
  · obtain ⟨u, v, z, walls, wall, Bd, rfl, hu, hv, hz, l1, l2, l3, hB, qN, qP⟩ := h
    obtain ⟨a, us, rfl, aT, aL⟩ := hu
    obtain ⟨b, rfl, bT⟩ := hv.nil
    have lu := aL.length
    rw [List.length_map] at lu
    refine ⟨_, rfl, a, us, rfl, aT, ?_⟩
    refine for_it (walk_enumB (k := false) (K := K) (a := a) (xs := us)) (fun i σ H' => Same H H' ∧ ∃ o3 o4 o5, σ = [some (.ref a), some (.ref b), some z, o3, o4, o5]) ⟨Same.refl H, _, _, _, rfl⟩ (fun i σ H' _ h => Same.ext h.1 _ _ aT) ?_ ?_
    · rintro i x σ H1 H2 hi ⟨s1, o3, o4, o5, rfl⟩ ⟨A', y, e, rfl, nA, rfl, ey, ez⟩
      cases (Option.some.inj ey)
      have ez2 : us[i]? = some e := ez
      have s2 : Same H (upd H1 A' (.tup [.int (i : Int), e])) := s1.trans (same_new nA)
      obtain ⟨hi2, de⟩ := rowsD_at (DenL.mono (Same.ext s2) aL) ez2
      refine g_pair (.inl (.inl upd_same)) ?_
      refine ⟨_, rfl, _, rfl, use_eqF de (hz.mono (Same.ext s2)) (fit_wd _ _) (fit_wd _ _) (fun eq => ?_) (fun ne => ?_)⟩
      · have e0 := wd_inj eq
        refine ⟨_, rfl, iteT ?_⟩
        refine ⟨_, rfl, a, _, rfl, .inr (Same.ext s2 _ _ aT), (us.length : Int), rfl, by omega, by omega, fun D nD => ?_⟩
        have eD0 : ((us.length : Nat) : Int).toNat = walls.length := by rw [← lu]; rfl
        rw [eD0]
        refine lc_rngI (n := walls.length) nD (fun p => if i = p then 1 else 0) (by omega) (fun _ => by rfl) (fun p Q' H3 hp s3 q' => ?_) (fun H3 s3 eD => ?_)
        · refine ⟨_, rfl, _, rfl, rfl, .inr ⟨_, rfl, ?_⟩⟩
          have e : (if decide (V.int (i : Int) = V.int (0 + (p : Int))) = true then (1 : Int) else 0) = if i = p then 1 else 0 := by
            by_cases c : i = p
            · rw [if_pos c, if_pos (decide_eq_true (by rw [c, Int.zero_add]))]
            · rw [if_neg c, if_neg (fun z => c (by have := V.int.inj (of_decide_eq_true z); omega))]
          rw [e]
          exact q'
        · refine ⟨D, _, rfl, .inl ⟨SqL.of eD, fun l nl => ⟨szl (show 1 ≤ 1000000 by decide), fun t nt => ?_⟩⟩⟩
          have s4 := s3.trans ((same_new (o := .tup (((List.range walls.length).map fun p => if i = p then (1 : Int) else 0).map V.int)) nl).trans (same_new (o := .tup [.int 0]) nt))
          refine ⟨_, rfl, b, _, rfl, .inr (Same.ext (s2.trans s4) _ _ bT), ?_⟩
          refine use_rep (.inl (.inl upd_same)) (by simp) (by simp) (by simp) (by simp) fun c H5 s5 hc => ?_
          refine ⟨szl (show 4 ≤ 1000000 by decide), fun tp ntp => ?_⟩
          have s6 := (same_new (o := .tup [.int 0]) nt).trans (s5.trans (same_new (o := .tup [.int 1, .ref l, .ref c, .int 0]) ntp))
          have hl6 : Den K (upd H5 tp (.tup [.int 1, .ref l, .ref c, .int 0])) (papD 1 ((List.range walls.length).map fun p => if i = p then 1 else 0) 0) (.ref tp) := by
            refine den_new ntp (denL_cons rfl (denL_cons (den_wd (Same.ext ((same_new nt).trans s5) _ _ (.inl (.inl upd_same)))) (denL_cons ⟨c, _, rfl, hc, rfl⟩ (denL_cons rfl denL_nil))))
          exact qP _ _ 1 0 _ (s2.trans (s3.trans ((same_new nl).trans s6))) hl6 (pap_unit hB hi2 e0) ⟨tp, rfl⟩
      · exact ⟨_, rfl, iteF ⟨s2, _, _, _, rfl⟩⟩
    · rintro σ H1 ⟨s1, o3, o4, o5, rfl⟩
      refine ⟨_, rfl, b, [], rfl, Same.ext s1 _ _ bT, ?_⟩
      refine for_it (walk_enumB (k := false) (K := K) (a := b) (xs := [])) (fun i σ H' => H' = H1 ∧ ∃ o3 o4 o5, σ = [some (.ref a), some (.ref b), some z, o3, o4, o5]) ⟨rfl, _, _, _, rfl⟩ (fun i σ H' _ h => by rw [h.1]; exact Same.ext s1 _ _ bT) ?_ ?_
      · rintro i x σ H1 H2 hi
        exact absurd hi (Nat.not_lt_zero _)
      · rintro σ H' ⟨rfl, o3, o4, o5, rfl⟩
        exact qN _ s1
theorem cut_take {xs : List V} {k : Nat} (h : k ≤ xs.length) : cutV xs none (some (k : Int)) = xs.take k := by
  unfold cutV
  rw [HT.sIx_nat, HT.sIx_none, List.drop_zero, Nat.sub_zero, Nat.min_eq_left h]
theorem cut_none {xs : List V} {k : Nat} : cutV xs (some (k : Int)) (some (k : Int)) = [] := by
  unfold cutV
  rw [HT.sIx_nat, HT.sIx_nat, Nat.sub_self, List.take_zero]
theorem cut_drop {xs : List V} {k : Nat} (h : k ≤ xs.length) : cutV xs (some (k : Int)) none = xs.drop k := by
  unfold cutV
  rw [HT.sIx_nat, HT.sIx_none, Nat.min_eq_left h, List.take_of_length_le (by rw [List.length_drop]; omega)]
theorem atI_neg1 {xs : List V} {v : V} (h : xs[xs.length - 1]? = some v) (hn : 0 < xs.length) : atI xs (-1) = some v := by
  unfold atI ixN
  rw [if_neg (by omega), if_pos (by omega)]
  show xs[((-1 : Int) + (xs.length : Int)).toNat]? = some v
  rw [show ((-1 : Int) + (xs.length : Int)).toNat = xs.length - 1 by omega]; exact h
theorem int_at {xs : List Int} {j : Nat} (h : j < xs.length) : (xs.map V.int)[j]? = some (.int (xs.getD j 0)) := by
  rw [List.getElem?_map, List.getElem?_eq_getElem h, getD_of h]; rfl
/-- a pair of data, taken apart -/
theorem Den.pair {H : Hp} {d e : Dt} {v : V} (h : Den K H (.t [d, e]) v) : ∃ a x y, v = .ref a ∧ SqT K H a [x, y] ∧ Den K H d x ∧ Den K H e y := by
  obtain ⟨a, vs, e1, hT, x, r, e2, hx, y, r2, e3, hy, e4⟩ := h
  rw [show r2 = [] from e4] at e3
  rw [e2, e3] at hT
  exact ⟨a, x, y, e1, hT, hx, hy⟩
/-! followed -/
theorem sc_followed : FnScope ["width", "walls", "stricts", "wall", "paper", "numbers", "point", "near", "far", "item"] ["width", "walls", "stricts", "wall"] (defScope (top 22)) := ⟨rfl, rfl, rfl, by decide +kernel, rfl, by decide +kernel, by decide +kernel⟩
def sp_followed (K : PySem.W.Frag) : Sp := fun vs H Q _ => ∃ (n C : Nat) (u v z : V) (walls : List (List Int)) (wall : List Int), vs = [.int (n : Int), u, v, z] ∧ Den K H (rowsD walls) u ∧ Den K H (.t []) v ∧ Den K H (wd wall) z ∧ PapIn n C walls wall ∧
  (∀ t H' pt, Same H H' → Den K H' (.t [.n, wd pt]) t → IsPt walls wall (bd n C) pt → Q t H') ∧
  (∀ t H' m b ws, Same H H' → Den K H' (.t [papD m ws b, .n]) t → IsPap walls wall (bd n C) m b ws → Q t H')
theorem facP_pos : ∀ n C, 1 ≤ C → 1 ≤ facP n C
  | 0, _, _ => Nat.le_refl _
  | n + 1, C, h => Nat.mul_pos (Nat.succ_pos _) (Nat.mul_pos h (facP_pos n C h))
theorem bd_pos {n C : Nat} (h : 1 ≤ C) : 1 ≤ bd n C := Nat.mul_pos (Nat.succ_pos _) (facP_pos _ _ h)
theorem ok_followed (T : Tx K mg) : FnOk P w K mg base CX0 5 278 (fdA K 278) ["width", "walls", "stricts", "wall"] (sp_followed K) := by
  refine (f_followed T).ok sc_followed (fun vs H Q E h => ?_) (fun cdv A outer s H vs Q E hr h => ⟨_, PSs.nox (pss_cons (ps_set (i := 4) sc_followed.nd rfl (.inl rfl) (pe_call (ok_unit_paper T) (hr.mono (by decide)) (by rfl) (g_unit_paper T) (f_unit_paper T).kp (b_unit_paper T) .nil pass0 (pa_cons (pv 1) (pa_cons (pv 2) (pa_cons (pv 3) pa_nil)))))
  (pss_cons (ps_if (pt_cmpR op_notN (pv 4) pe_non (nomark _)) (pss_one (ps_ret (pe_tup (pa_cons (pv 4) (pa_cons pe_non pa_nil))))) pss_nil)
  (pss_cons (ps_asg (pe_call (ok_paper_of T) (hr.mono (by decide)) (by rfl) (g_paper_of T) (f_paper_of T).kp (b_paper_of T) .nil pass0 (pa_cons (pv 0) (pa_cons (pv 1) (pa_cons (pv 2) (pa_cons (pe_tup (pa_cons (pe_callTy (k_tuple K) (by rfl) (free_tuple T) (by decide +kernel) (pa_cons (pe_lc (own := [("item", 9)]) rfl sc_followed.nd (k_pit K (pv 3)) (blkOk_by (N := ["width", "walls", "stricts", "wall", "paper", "numbers", "point", "near", "far", "item"]) (sc := (defScope (top 22))) (by decide +kernel)) (fun _ _ _ _ _ => (pg_name (i := 9) sc_followed.nd rfl (.inl rfl) (hf := (.inr rfl)))) (fun _ _ _ _ _ => pts_nil) (fun _ _ _ _ _ => (pe_un un_neg (pv 9)))) pa_nil)) pa_nil)) pa_nil))))) (k_tgt K 2 rfl (pgs_cons (pg_name (i := 5) sc_followed.nd rfl (.inl rfl) (hf := (.inl rfl))) (pgs_cons (pg_name (i := 6) sc_followed.nd rfl (.inl rfl) (hf := (.inl rfl))) pgs_nil))))
  (pss_cons (ps_if (pt_cmpR op_isN (pv 5) pe_non (nomark _)) (pss_one (ps_ret (pe_tup (pa_cons pe_non (pa_cons (pv 6) pa_nil))))) pss_nil)
  (pss_cons (ps_par (i := 7) (j := 8) rfl sc_followed.nd rfl rfl (by decide) rfl rfl (pa_cons (pe_callB (k_len K) (by rfl) (free_len T) (by decide +kernel) (pa_cons (pv 1) pa_nil)) (pa_cons (pe_op op_add (pe_callB (k_len K) (by rfl) (free_len T) (by decide +kernel) (pa_cons (pv 1) pa_nil)) (pe_callB (k_len K) (by rfl) (free_len T) (by decide +kernel) (pa_cons (pv 2) pa_nil))) pa_nil)) (by rfl))
  (pss_one (ps_ret (pe_tup (pa_cons (pe_tup (pa_cons (pe_ix (k_ixT K) (pv 5) (pe_un un_neg pe_int) (fun _ _ => rfl)) (pa_cons (pe_slice (k_slT K) (pv 5) po_none (po_some (pv 7))) (pa_cons (pe_slice (k_slT K) (pv 5) (po_some (pv 7)) (po_some (pv 8))) (pa_cons (pe_ix (k_ixT K) (pv 5) (pv 8) (fun _ _ => rfl)) pa_nil))))) (pa_cons pe_non pa_nil)))))))))), ?_⟩)
  · obtain ⟨n, C, u, v, z, walls, wall, rfl, _⟩ := h; rfl
  · obtain ⟨n, C, u, v, z, walls, wall, rfl, hu, hv, hz, hI, qP, qW⟩ := h
    have hn := hI.hn
    have hn2 := hI.hn2
    have hsz := hI.hz
    refine ⟨_, rfl, _, rfl, _, rfl, ?_⟩
    refine ⟨u, v, z, walls, wall, bd n C, rfl, hu, hv, hz, by omega, fun r hr => by rw [hI.hw r hr]; omega, by rw [hI.hl]; omega, bd_pos hI.hC, fun H1 s1 => ?_, fun y H1 m b ws s1 dp hp ⟨a, ea⟩ => ?_⟩
    · refine ⟨_, rfl, rfl, _, rfl, iteF ?_⟩
      obtain ⟨zp, rfl, zT⟩ := id hz.wd
      refine ⟨_, rfl, _, rfl, _, rfl, _, rfl, zp, rfl, ⟨_, Same.ext s1 _ _ zT⟩, fun D nD => lc_tupI nD (Same.ext s1 _ _ zT) (fun v => - v) (by rw [hI.hl]; omega) (fun _ => by rfl) (fun x Q' H2 hx s2 q' => ⟨_, rfl, _, rfl, q'⟩) (fun H2 s2 eD => ?_)⟩
      refine ⟨D, _, rfl, .inl ⟨SqL.of eD, fun l nl => ⟨szl (show 1 ≤ 1000000 by decide), fun t nt => ?_⟩⟩⟩
      have s3 := s2.trans ((same_new (o := .tup ((wall.map (fun v => - v)).map V.int)) nl).trans (same_new (o := .tup [.ref l]) nt))
      have dz : Den K (upd (upd H2 l (.tup ((wall.map (fun v => - v)).map V.int))) t (.tup [.ref l])) (rowsD [wall.map (fun v => - v)]) (.ref t) := den_new nt (denL_cons (den_wd (.inl (.inl upd_same))) denL_nil)
      have s13 := s1.trans s3
      refine ⟨n, C, u, v, .ref t, walls, wall, rfl, hu.mono (Same.ext s13), hv.mono (Same.ext s13), dz, hI, fun y H3 pt s4 dy hp => ?_, fun y H3 ns s4 dy ln hp => ?_⟩
      · obtain ⟨a, x1, x2, rfl, aT, d1, d2⟩ := dy.pair
        obtain rfl : x1 = .non := d1
        refine g_pair aT ⟨_, rfl, rfl, _, rfl, iteT ?_⟩
        refine ⟨_, rfl, szl (show 2 ≤ 1000000 by decide), fun tp ntp => ?_⟩
        exact qP _ _ pt (s13.trans (s4.trans (same_new ntp))) (den_new ntp (denL_cons rfl (denL_cons d2 denL_nil))) hp
      · obtain ⟨a, x1, x2, rfl, aT, d1, d2⟩ := dy.pair
        obtain ⟨pn, rfl, nT⟩ := d1.wd
        refine g_pair aT ⟨_, rfl, rfl, _, rfl, iteF ?_⟩
        have s14 := s13.trans s4
        obtain ⟨au, us, rfl, uT, uL⟩ := hu
        obtain ⟨b, rfl, bT⟩ := hv.nil
        have lu := uL.length
        rw [List.length_map] at lu
        refine ⟨_, rfl, au, us, rfl, .inr (Same.ext s14 _ _ uT), _, rfl, au, us, rfl, .inr (Same.ext s14 _ _ uT), _, rfl, b, [], rfl, .inr (Same.ext s14 _ _ bT), _, _, rfl, rfl, _, _, rfl, ?_⟩
        rw [lu, show (fun i j : Int => V.int (i + j)) ((walls.length : Nat) : Int) ((([] : List V).length : Nat) : Int) = V.int ((walls.length : Nat) : Int) by simp]
        have lv : (ns.map V.int).length = walls.length + 2 := by rw [List.length_map, ln]
        refine ⟨_, rfl, _, rfl, pn, _, _, _, rfl, rfl, nT, atI_neg1 (by rw [lv]; exact int_at (j := walls.length + 1) (by omega)) (by omega), ?_⟩
        refine ⟨_, rfl, _, rfl, _, rfl, use_sl nT fun c1 H5 s5 hc1 => ?_⟩
        have nT5 := Same.ext s5 _ _ nT
        refine ⟨_, rfl, _, rfl, _, rfl, _, rfl, _, rfl, use_sl nT5 fun c2 H6 s6 hc2 => ?_⟩
        have nT6 := Same.ext s6 _ _ nT5
        refine ⟨_, rfl, _, rfl, pn, _, _, _, rfl, rfl, nT6, atI_nat (int_at (by omega)), ?_⟩
        rw [cut_take (by omega), ← List.map_take] at hc1
        rw [cut_none] at hc2
        refine ⟨szl (show 4 ≤ 1000000 by decide), fun t1 nt1 => ⟨szl (show 2 ≤ 1000000 by decide), fun t2 nt2 => ?_⟩⟩
        have dp := den_new (K := K) (l := [.i (ns.getD (walls.length + 1) 0), wd (ns.take walls.length), .t [], .i (ns.getD walls.length 0)]) nt1 (denL_cons rfl (denL_cons (den_wd (Same.ext s6 _ _ hc1)) (denL_cons ⟨c2, _, rfl, hc2, rfl⟩ (denL_cons rfl denL_nil))))
        refine qW _ _ _ _ _ (s14.trans (s5.trans (s6.trans ((same_new nt1).trans (same_new nt2))))) ?_ hp
        exact den_new nt2 (denL_cons dp (denL_cons rfl denL_nil))
    · subst ea
      refine ⟨_, rfl, rfl, _, rfl, iteT ?_⟩
      refine ⟨_, rfl, szl (show 2 ≤ 1000000 by decide), fun t nt => ?_⟩
      exact qW _ _ m b ws (s1.trans (same_new nt)) (den_new nt (denL_cons dp (denL_cons rfl denL_nil))) hp
end
end K28
end
section
set_option Elab.async false
set_option linter.all false
set_option maxRecDepth 100000
set_option maxHeartbeats 4000000
set_option exponentiation.threshold 2000
namespace K28
open PySem L2
section
variable {P : Program} {w : World} {K : PySem.W.Frag} {mg : Str → Option Value} {base : Heap}
/-! is_paper -/
theorem sc_is_paper : FnScope ["width", "walls", "stricts", "wall", "thing", "found", "m", "ws", "ss", "b", "many", "other", "item", "more"] ["width", "walls", "stricts", "wall", "thing"] (defScope (top 24)) := ⟨rfl, rfl, rfl, by decide +kernel, rfl, by decide +kernel, by decide +kernel⟩
def sp_is_paper (K : PySem.W.Frag) : Sp := fun vs H Q _ => ∃ (n : Nat) (u v z y : V) (walls : List (List Int)) (wall ws : List Int) (m b : Int) (Bd : Nat), vs = [.int (n : Int), u, v, z, y] ∧ Den K H (rowsD walls) u ∧ Den K H (.t []) v ∧ Den K H (wd wall) z ∧ Den K H (papD m ws b) y ∧
  IsPap walls wall Bd m b ws ∧ Bd < 2 ^ 500 ∧ walls.length ≤ 500 ∧ 1 ≤ wall.length ∧ wall.length ≤ 100 ∧ (∀ r ∈ walls, r.length = wall.length) ∧ (∀ r ∈ walls, ∀ x ∈ r, x.natAbs < 2 ^ 500) ∧ (∀ x ∈ wall, x.natAbs < 2 ^ 500) ∧ ∀ H', Same H H' → Q (.bl true) H'
theorem ok_is_paper (T : Tx K mg) : FnOk P w K mg base CX0 4 288 (fdA K 288) ["width", "walls", "stricts", "wall", "thing"] (sp_is_paper K) := by
  refine (f_is_paper T).ok sc_is_paper (fun vs H Q E h => ?_) (fun cdv A outer s H vs Q E hr h => ⟨_, PSs.nox (pss_cons (ps_if (PW.pt (pw_or (pt_not (pt_val (pe_callB (k_isi K) (by rfl) (free_isinstance T) (by decide +kernel) (pa_cons (pv 4) (pa_cons (pe_bltn (v := .ty "tuple") (by rfl) (free_tuple T) (by decide +kernel) rfl) pa_nil))))) (pw_or (pt_cmpR op_ne (pe_callB (k_len K) (by rfl) (free_len T) (by decide +kernel) (pa_cons (pv 4) pa_nil)) pe_int (nomark _)) (pw_or1 (pt_not (pt_val (pe_call (ok_are_weights T) (hr.mono (by decide)) (by rfl) (g_are_weights T) (f_are_weights T).kp (b_are_weights T) .nil pass0 (pa_cons pe_int (pa_cons (pe_tup (pa_cons (pe_ix (k_ixT K) (pv 4) pe_int (fun _ _ => rfl)) (pa_cons (pe_ix (k_ixT K) (pv 4) pe_int (fun _ _ => rfl)) pa_nil))) pa_nil))))))))) (pss_one (ps_ret pe_bl)) pss_nil)
  (pss_cons (ps_asg (pv 4) (k_tgt K 4 rfl (pgs_cons (pg_name (i := 6) sc_is_paper.nd rfl (.inr rfl) (hf := (.inl rfl))) (pgs_cons (pg_name (i := 7) sc_is_paper.nd rfl (.inl rfl) (hf := (.inl rfl))) (pgs_cons (pg_name (i := 8) sc_is_paper.nd rfl (.inl rfl) (hf := (.inl rfl))) (pgs_cons (pg_name (i := 9) sc_is_paper.nd rfl (.inl rfl) (hf := (.inl rfl))) pgs_nil))))))
  (pss_cons (ps_if (PW.pt (pw_or (pt_not (pt_val (pe_call (ok_are_weights T) (hr.mono (by decide)) (by rfl) (g_are_weights T) (f_are_weights T).kp (b_are_weights T) .nil pass0 (pa_cons (pe_callB (k_len K) (by rfl) (free_len T) (by decide +kernel) (pa_cons (pv 1) pa_nil)) (pa_cons (pv 7) pa_nil))))) (pw_or (pt_not (pt_val (pe_call (ok_are_weights T) (hr.mono (by decide)) (by rfl) (g_are_weights T) (f_are_weights T).kp (b_are_weights T) .nil pass0 (pa_cons (pe_callB (k_len K) (by rfl) (free_len T) (by decide +kernel) (pa_cons (pv 2) pa_nil)) (pa_cons (pv 8) pa_nil))))) (pw_or1 (pt_cmpR op_lt (pe_op op_add (pe_op op_add (pv 6) (pe_callB (k_sumT K rfl) (by rfl) (free_sum T) (by decide +kernel) (pa_cons (pv 8) pa_nil))) (pv 9)) pe_int (nomark _)))))) (pss_one (ps_ret pe_bl)) pss_nil)
  (pss_cons (ps_setLc (i := 5) (own := [("item", 12)]) rfl sc_is_paper.nd rfl rfl (sw_true rfl rfl rfl (by decide +kernel)) (k_pit K (pv 3)) (blkOk_by (N := ["width", "walls", "stricts", "wall", "thing", "found", "m", "ws", "ss", "b", "many", "other", "item", "more"]) (sc := (defScope (top 24))) (by decide +kernel)) (fun _ _ _ _ _ => (pg_name (i := 12) sc_is_paper.nd rfl (.inl rfl) (hf := (.inr rfl)))) (fun _ _ _ _ _ => pts_nil) (fun _ _ _ _ _ => (pe_op op_mulW (pe_un un_neg (pv 6)) (pv 12))))
  (pss_cons (ps_asg (pe_op op_add (pe_ix (k_ixL K) (pv 5) (pe_un un_neg pe_int) (fun _ _ => rfl)) (pv 9)) (pg_sub (pv 5) (pe_un un_neg pe_int) set_list))
  (pss_cons (ps_for PassesOwn.never rfl (k_zip K false false (by rfl) (free_zip T) (pa_cons (pe_op (k_cat K) (pv 7) (pv 8)) (pa_cons (pe_op (k_cat K) (pv 1) (pv 2)) pa_nil))) (k_tgt K 2 rfl (pgs_cons (pg_name (i := 10) sc_is_paper.nd rfl (.inr rfl) (hf := (.inl rfl))) (pgs_cons (pg_name (i := 11) sc_is_paper.nd rfl (.inl rfl) (hf := (.inl rfl))) pgs_nil)))
    (pss_one (ps_setLc (i := 5) (own := [("item", 12), ("more", 13)]) rfl sc_is_paper.nd rfl rfl (sw_true rfl rfl rfl (by decide +kernel)) (k_zip K true false (by rfl) (free_zip T) (pa_cons (pv 5) (pa_cons (pv 11) pa_nil))) (blkOk_by (N := ["width", "walls", "stricts", "wall", "thing", "found", "m", "ws", "ss", "b", "many", "other", "item", "more"]) (sc := (defScope (top 24))) (by decide +kernel)) (fun _ _ _ _ _ => (k_tgt K 2 rfl (pgs_cons (pg_name (i := 12) sc_is_paper.nd rfl (.inl rfl) (hf := (.inr rfl))) (pgs_cons (pg_name (i := 13) sc_is_paper.nd rfl (.inl rfl) (hf := (.inr rfl))) pgs_nil)))) (fun _ _ _ _ _ => pts_nil) (fun _ _ _ _ _ => (pe_op op_add (pv 12) (pe_op op_mulW (pv 10) (pv 13)))))))
  (pss_one (ps_ret (pe_callB (k_all K rfl) (by rfl) (free_all T) (by decide +kernel) (pa_cons (pe_lc (own := [("item", 12)]) rfl sc_is_paper.nd (k_pil K (pv 5)) (blkOk_by (N := ["width", "walls", "stricts", "wall", "thing", "found", "m", "ws", "ss", "b", "many", "other", "item", "more"]) (sc := (defScope (top 24))) (by decide +kernel)) (fun _ _ _ _ _ => (pg_name (i := 12) sc_is_paper.nd rfl (.inl rfl) (hf := (.inr rfl)))) (fun _ _ _ _ _ => pts_nil) (fun _ _ _ _ _ => (pe_cmpR op_eq (pv 12) pe_int (nomark _)))) pa_nil)))))))))), ?_⟩)
  · obtain ⟨n, u, v, z, y, walls, wall, ws, m, b, Bd, rfl, _⟩ := h; rfl
  · obtain ⟨n, u, v, z, y, walls, wall, ws, m, b, Bd, rfl, hu, hv, hz, hy, hP, hBd, hl, hn1, hn2, hw, wB, lB, q⟩ := h
    obtain ⟨au, us, rfl, uT, uL⟩ := hu
    obtain ⟨bv, rfl, vT⟩ := hv.nil
    obtain ⟨az, rfl, zT⟩ := hz.wd
    obtain ⟨ay, ys, rfl, yT, x1, r1, rfl, d1, x2, r2, rfl, d2, x3, r3, rfl, d3, x4, r4, rfl, d4, rfl⟩ := hy
    obtain rfl : x1 = .int m := d1
    obtain rfl : x4 = .int b := d4
    obtain ⟨aw, rfl, wT⟩ := d2.wd
    obtain ⟨a3, rfl, sT⟩ := d3.nil
    have lu := uL.length
    rw [List.length_map] at lu
    have lw := hP.len
    refine ⟨_, rfl, use_isi (ty_tup yT) (by decide +kernel) ⟨true, rfl, iteF ?_⟩⟩
    refine ⟨_, rfl, ay, _, rfl, .inr yT, rfl, _, rfl, lastB _ (fun l => absurd l (by simp)) (fun _ => ?_)⟩
    refine ⟨_, rfl, ay, _, _, _, rfl, rfl, yT, rfl, _, rfl, ay, _, _, _, rfl, rfl, yT, rfl, szl (show 2 ≤ 1000000 by decide), fun t1 nt1 => ?_⟩
    refine ⟨2, .ref t1, [m, b], rfl, den_wd (.inl (.inl upd_same)), (show 2 ≤ 1000 by decide), fun H1 s1 => ?_⟩
    have e1 : (decide ((([m, b] : List Int).length : Int) = 2) && [m, b].all fun x => decide (0 ≤ x)) = true := by simp [hP.m0, hP.b0]
    rw [e1]
    refine ⟨true, rfl, iteF ?_⟩
    have s01 := (same_new nt1).trans s1
    refine ⟨_, rfl, ay, _, rfl, Same.ext s01 _ _ yT, rfl, _, _, rfl, _, _, rfl, _, _, rfl, _, _, rfl, rfl, ?_⟩
    refine ⟨_, rfl, au, _, rfl, .inr (Same.ext s01 _ _ uT), _, rfl, ?_⟩
    refine ⟨_, _, ws, rfl, d2.mono (Same.ext s01), by omega, fun H2 s2 => ?_⟩
    have e2 : (decide ((ws.length : Int) = (us.length : Int)) && ws.all fun x => decide (0 ≤ x)) = true := by
      rw [lw, lu, decide_eq_true rfl, Bool.true_and, List.all_eq_true]
      exact fun x hx => decide_eq_true (hP.w0 x hx)
    rw [e2]
    have s02 := s01.trans s2
    refine ⟨true, rfl, iteF ?_⟩
    refine ⟨_, rfl, bv, _, rfl, .inr (Same.ext s02 _ _ vT), _, rfl, ?_⟩
    refine ⟨_, _, [], rfl, d3.mono (Same.ext s02), (show 0 ≤ 1000 by decide), fun H3 s3 => ⟨true, rfl, iteF ?_⟩⟩
    have s03 := s02.trans s3
    refine ⟨_, rfl, _, rfl, a3, [], rfl, Same.ext s03 _ _ sT, _, _, rfl, rfl, _, rfl, _, _, rfl, rfl, _, _, rfl, rfl, _, rfl, lastB _ (fun l => ?_) (fun _ => ?_)⟩
    · have := of_decide_eq_true l
      have := hP.mb
      simp at *
      omega
    refine ⟨_, rfl, az, rfl, ⟨_, Same.ext s03 _ _ zT⟩, fun D nD => lc_tupI nD (Same.ext s03 _ _ zT) (fun x => - m * x) (by omega) (fun _ => by rfl) (fun x Q' H4 hx s4 q' => ?_) (fun H4 s4 eD => ?_)⟩
    · exact ⟨_, rfl, _, rfl, _, rfl, _, _, rfl, rfl, mul500 (by rw [Int.natAbs_neg]; have := hP.mB; omega) (lB x hx), q'⟩
    have lenm : (wall.map (fun x => - m * x)).length = wall.length := by rw [List.length_map]
    have em : (wall.map (fun x => - m * x)).map V.int = FL wall.length (fun x => - m * wall.getD x 0) := by
      rw [fl_of lenm]
      refine fl_congr fun x hx => ?_
      rw [getD_of (by rw [lenm]; exact hx), getD_of hx, List.getElem_map]
    rw [em] at eD
    have s04 := s03.trans s4
    have hlast : atI (FL wall.length (fun x => - m * wall.getD x 0)) (-1) = some (.int (- m * wall.getD (wall.length - 1) 0)) := atI_neg1 (by rw [fl_len]; exact fl_get (by omega)) (by rw [fl_len]; exact hn1)
    have hix : ixN wall.length (-1) = some (wall.length - 1) := by
      unfold ixN
      rw [if_neg (by omega), if_pos (by omega)]
      congr 1; omega
    refine ⟨_, rfl, _, rfl, D, _, _, _, rfl, rfl, SqL.of eD, hlast, _, rfl, _, _, rfl, rfl, ?_⟩
    refine ⟨_, rfl, _, rfl, D, _, _, wall.length - 1, rfl, rfl, eD, (by rw [fl_len]; exact hix), ?_⟩
    rw [fl_set (by omega)]
    have s5 : Same H (upd H4 D (.lst (FL wall.length (fun k => if k = wall.length - 1 then - m * wall.getD (wall.length - 1) 0 + b else - m * wall.getD k 0)))) := same_upd s04 (noneBack nD s03)
    have eD5 : upd H4 D (.lst (FL wall.length (fun k => if k = wall.length - 1 then - m * wall.getD (wall.length - 1) 0 + b else - m * wall.getD k 0))) D = some (.lst (FL wall.length (fun k => (- m * wall.getD k 0 + (if k + 1 = wall.length then b else 0)) + comb (ws.take 0) (walls.take 0) k))) := by
      rw [upd_same]
      refine congrArg (fun z => some (HO.lst z)) (fl_congr fun x hx => ?_)
      rw [show comb (ws.take 0) (walls.take 0) x = 0 from rfl]
      by_cases e : x = wall.length - 1
      · rw [if_pos e, if_pos (by omega), e, Int.add_zero]
      · rw [if_neg e, if_neg (by omega), Int.add_zero, Int.add_zero]
    generalize upd H4 D (.lst (FL wall.length (fun k => if k = wall.length - 1 then - m * wall.getD (wall.length - 1) 0 + b else - m * wall.getD k 0))) = H5 at s5 eD5 ⊢
    -- the loop
    refine ⟨_, rfl, _, rfl, use_cat (Same.ext s5 _ _ wT) (Same.ext s5 _ _ sT) (by simp; omega) fun c1 H6 s6 hc1 => ?_⟩
    have s06 := s5.trans s6
    refine ⟨_, rfl, _, rfl, use_cat (Same.ext s06 _ _ uT) (Same.ext s06 _ _ vT) (by simp; omega) fun c2 H7 s7 hc2 => ?_⟩
    rw [List.append_nil] at hc1 hc2
    have s07 := s06.trans s7
    have hc1' := Same.ext s7 _ _ hc1
    refine ⟨c1, c2, _, _, rfl, hc1', hc2, ?_⟩
    have eD7 := (s6.trans s7) _ _ eD5
    refine for_it (n := walls.length) (walk_zipB (k := false) (j := false) (K := K) (a := c1) (b := c2) (xs := ws.map V.int) (ys := us) (by rw [List.length_map]; omega))
      (fun i σ H' => Same H7 H' ∧ ∃ Dd o0 o1 o2 o3, σ = [some (.int (n : Int)), some (.ref au), some (.ref bv), some (.ref az), some (.ref ay), some (.ref Dd), some (.int m), some (.ref aw), some (.ref a3), some (.int b), o0, o1, o2, o3] ∧
        H' Dd = some (.lst (FL wall.length (fun k => (- m * wall.getD k 0 + (if k + 1 = wall.length then b else 0)) + comb (ws.take i) (walls.take i) k))))
      ⟨Same.refl _, D, _, _, _, _, rfl, eD7⟩ (fun i σ H' _ h => ⟨Same.ext h.1 _ _ hc1', Same.ext h.1 _ _ hc2⟩) ?_ ?_
    · rintro i x σ H8 H9 hi ⟨s8, Dd, o0, o1, o2, o3, rfl, eDd⟩ ⟨A', e, f, rfl, nA, rfl, ey, ez⟩
      have ey2 : (ws.map V.int)[i]? = some e := ey
      have ez2 : us[i]? = some f := ez
      obtain ⟨rfl, hi2⟩ := int_get ey2
      have s9 : Same H7 (upd H8 A' (.tup [.int (ws.getD i 0), f])) := s8.trans (same_new nA)
      have eDd9 := (same_new (o := .tup [.int (ws.getD i 0), f]) nA) _ _ eDd
      have dL9 := DenL.mono (Same.ext (s07.trans s9)) uL
      obtain ⟨_, df⟩ := rowsD_at dL9 ez2
      generalize hH9 : upd H8 A' (.tup [.int (ws.getD i 0), f]) = H9 at s9 eDd9 df ⊢
      obtain ⟨af, rfl, fT⟩ := df.wd
      refine g_pair (by rw [← hH9]; exact .inl (.inl upd_same)) ?_
      have hrl : (walls.getD i []).length = wall.length := hw _ (by rw [getD_of hi]; exact List.getElem_mem hi)
      have bw : (ws.getD i 0).natAbs < 2 ^ 500 := by
        have := hP.wB (ws.getD i 0) (by rw [getD_of hi2]; exact List.getElem_mem hi2)
        omega
      refine ⟨_, rfl, _, rfl, Dd, af, _, _, rfl, SqL.of eDd9, fT, fun D2 nD2 => ?_⟩
      refine lc_zipI nD2 (SqL.of eDd9) fT (fun x y => x + ws.getD i 0 * y) (by unfold FI; simp; omega) (fun _ _ => by rfl) (fun x y Q' H2 hx hy s2 q' => ?_) (fun H10 s10 eD2 => ?_)
      · refine ⟨_, rfl, _, rfl, _, rfl, _, _, rfl, rfl, mul500 bw ?_, _, _, rfl, rfl, q'⟩
        exact wB _ (by rw [getD_of hi]; exact List.getElem_mem hi) _ hy
      · refine ⟨s9.trans s10, D2, _, _, _, _, rfl, ?_⟩
        rw [eD2, show walls.getD i [] = FI wall.length (fun x => (walls.getD i []).getD x 0) from ?_, fi_zip]
        · refine congrArg (fun z => some (HO.lst z)) (fl_congr fun x hx => ?_)
          have et : comb (ws.take (i + 1)) (walls.take (i + 1)) x = comb (ws.take i) (walls.take i) x + ws.getD i 0 * (walls.getD i []).getD x 0 := by
            unfold comb
            rw [List.take_add_one, List.take_add_one, List.getElem?_eq_getElem hi, List.getElem?_eq_getElem hi2, List.zipWith_append (by simp; omega), List.sum_append, getD_of hi, getD_of hi2]
            simp
          rw [et]; omega
        · unfold FI
          have := map_at (walls.getD i []) 0 (fun x => x)
          rw [hrl, List.map_id'] at this
          exact this.symm
    · rintro σ H8 ⟨s8, Dd, o0, o1, o2, o3, rfl, eDd⟩
      have e0 : FL wall.length (fun k => (- m * wall.getD k 0 + (if k + 1 = wall.length then b else 0)) + comb (ws.take walls.length) (walls.take walls.length) k) = FL wall.length (fun _ => 0) := fl_congr fun x hx => by
        have := hP.eq x hx
        rw [List.take_of_length_le (by omega), List.take_of_length_le (by omega)]
        have e2 : - m * wall.getD x 0 = - (m * wall.getD x 0) := Int.neg_mul ..
        omega
      rw [e0] at eDd
      refine ⟨_, rfl, Dd, rfl, ⟨_, SqL.of eDd⟩, fun D2 nD2 => ?_⟩
      refine lc_lstB nD2 (SqL.of eDd) (denL_ints (FI wall.length fun _ => 0)) (fun _ => true) (by unfold FI; simp; omega) (fun _ => by rfl) (fun d x Q' H2 hd s2 dx q' => ?_) (fun H9 s9 eD2 => ?_)
      · obtain ⟨i, hi, rfl⟩ := List.mem_map.mp hd
        obtain rfl : x = .int i := dx
        unfold FI at hi
        obtain ⟨_, _, rfl⟩ := List.mem_map.mp hi
        exact ⟨_, rfl, rfl, q' _ (Same.refl _)⟩
      · refine ⟨D2, _, rfl, SqL.of eD2, ?_⟩
        have e3 : ((List.map Dt.i (FI wall.length fun _ => 0)).map (fun _ => true)).all id = true := by simp
        rw [e3]
        exact q _ (s07.trans (s8.trans s9))
end
end K28
end
section
set_option Elab.async false
set_option linter.all false
set_option maxRecDepth 100000
set_option maxHeartbeats 4000000
set_option exponentiation.threshold 2000
namespace K28
open PySem L2
theorem k_ltD (K : PySem.W.Frag) {X : Cx} (hu : X.A.units + 64 < cLine) (h : X.K = K := by rfl) : OpR X (compareOp .Lt) (rLtD K) := by subst h; exact op_ltD hu
@[irreducible] def kDictT (K : PySem.W.Frag) : List V → Hp → VK → Prop := rDictT K
theorem k_dictT (K : PySem.W.Frag) {X : Cx} (hc : X.calm = true) (h : X.K = K := by rfl) : CallR X (.type "dict") (kDictT K) := by
  subst h
  unfold kDictT
  exact call_dictT hc
@[irreducible] def kIndex (K : PySem.W.Frag) : V → List V → Hp → VK → Prop := rIndex K
theorem k_index (K : PySem.W.Frag) {X : Cx} (h : X.K = K := by rfl) : MtR X "list.index" (kIndex K) := by
  subst h
  unfold kIndex
  exact mt_index
/-- all([.. for ..]) when each is true -/
theorem lc_true {K : PySem.W.Frag} {J : It} {n : Nat} {G : Hp → Prop} {Y : Nat → Hp → V → Hp → Prop} {σ : L2.St} {H1 : Hp} {g : TG} {te : TE} {vs : List Nat}
    {D : Addr} (hD : H1 D = none) {Qd : Hp → Prop} (wk : Walk J n G Y) (hz : n ≤ 100000) (hG : ∀ H', Same H1 H' → G H')
    (body : ∀ i x H' H2 (Q' : VK), i < n → Same H1 H' → Y i H' x H2 → (∀ H4, Same H' H4 → Q' (.bl true) H4) → EltK σ vs g te x H2 Q')
    (post : ∀ H' (bs : List Bool), Same H1 H' → H' D = some (.lst (bs.map V.bl)) → bs.all id = true → Qd H') : LcGoal D J H1 σ vs g tYes te Qd := by
  refine lc_map (K := K) hD wk (fun _ => .b true) hz hG ?_ ?_
  · intro i x H' H2 Q' hi s y q
    exact body i x H' H2 Q' hi s y fun H4 s4 => q _ _ s4 rfl
  · intro H' us s eD dL
    have e2 : (List.range n).map (fun _ => Dt.b true) = ((List.range n).map fun _ => true).map Dt.b := by rw [List.map_map]; rfl
    rw [e2] at dL
    rw [dL.bools] at eD
    exact post H' _ s eD (by simp)
theorem inV_strs {x : Str} (l : List Str) : inV (.str x) (l.map V.str) = decide (x ∈ l) := by
  unfold inV
  induction l with
  | nil => rfl
  | cons y l ih =>
    rw [List.map_cons, List.any_cons, ih]
    show ((y == x) || decide (x ∈ l)) = decide (x ∈ y :: l)
    by_cases e : y = x
    · subst e; simp
    · have : (y == x) = false := beq_eq_false_iff_ne.mpr e
      rw [this, Bool.false_or]
      exact decide_eq_decide.mpr ⟨fun h => List.mem_cons_of_mem _ h, fun h => (List.mem_cons.mp h).resolve_left fun z => e z.symm⟩
section
variable {P : Program} {w : World} {K : PySem.W.Frag} {mg : Str → Option Value} {base : Heap}
/-! is_name_value -/
theorem sc_is_name_value : FnScope ["thing", "sign"] ["thing"] (defScope (top 36)) := ⟨rfl, rfl, rfl, by decide +kernel, rfl, by decide +kernel, by decide +kernel⟩
def sp_is_name_value : Sp := fun vs H Q _ => ∃ x : Str, vs = [.str x] ∧ okName x = true ∧ ∀ H', Same H H' → Q (.bl true) H'
theorem ok_is_name_value (T : Tx K mg) : FnOk P w K mg base CX0 1 295 (fdA K 295) ["thing"] sp_is_name_value := by
  refine (f_is_name_value T).ok sc_is_name_value (fun vs H Q E h => ?_) (fun cdv A outer s H vs Q E hr h => ⟨_, PSs.nox (pss_cons (ps_if (PW.pt (pw_or (pt_not (pt_val (pe_callB (k_isi K) (by rfl) (free_isinstance T) (by decide +kernel) (pa_cons (pv 0) (pa_cons (pe_bltn (v := .ty "str") (by rfl) (free_str T) (by decide +kernel) rfl) pa_nil))))) (pw_or (pt_not (pt_chain op_le op_le pe_int (pe_callB call_len_str (by rfl) (free_len T) (by decide +kernel) (pa_cons (pv 0) pa_nil)) (pe_glob (v := .int _) (by rfl) (int_LONGEST_NAME T).choose_spec ⟨_, rfl⟩))) (pw_or1 (pt_cmpR (k_inS K) (pv 0) (pe_glob (v := .ref _) (by rfl) (g_RESERVED T) rfl) (by rfl)))))) (pss_one (ps_ret pe_bl)) pss_nil)
  (pss_one (ps_ret (pe_callB (k_all K rfl) (by rfl) (free_all T) (by decide +kernel) (pa_cons (pe_lc (own := [("sign", 1)]) rfl sc_is_name_value.nd (pi_str (pv 0)) (blkOk_by (N := ["thing", "sign"]) (sc := (defScope (top 36))) (by decide +kernel)) (fun _ _ _ _ _ => (pg_name (i := 1) sc_is_name_value.nd rfl (.inl rfl) (hf := (.inr rfl)))) (fun _ _ _ _ _ => pts_nil) (fun _ _ _ _ _ => (pe_cmpR op_in_sign (pv 1) (pe_glob (v := .str _) (by rfl) (str_LETTERS T).choose_spec ⟨_, rfl⟩) (by rfl)))) pa_nil))))), ?_⟩)
  · obtain ⟨x, rfl, _⟩ := h; rfl
  · obtain ⟨x, rfl, ok, q⟩ := h
    unfold okName at ok
    rw [Bool.and_eq_true, Bool.and_eq_true] at ok
    obtain ⟨⟨ok1, ok2⟩, ok3⟩ := ok
    have o1 := of_decide_eq_true ok1
    refine ⟨_, rfl, use_isi (.base (.str x)) (by decide +kernel) ⟨true, rfl, iteF ?_⟩⟩
    have l1 : (1 : Int) ≤ (x.length : Int) := by show (1 : Int) ≤ ((x.cps.size : Nat) : Int); omega
    have l2 : (x.length : Int) ≤ 8 := by show ((x.cps.size : Nat) : Int) ≤ 8; omega
    refine ⟨_, rfl, x, rfl, szl (by show x.cps.size ≤ 1000000; omega), _, _, rfl, rfl, _, rfl, lastB _ (fun _ => ?_) (fun l => absurd l1 (of_decide_eq_false l))⟩
    have l3 : (!decide ((x.length : Int) ≤ 8)) = false := by rw [decide_eq_true l2]; rfl
    refine ⟨_, _, rfl, rfl, _, rfl, lastB _ (fun l => absurd (l.symm.trans l3) (by decide)) (fun _ => ?_)⟩
    refine ⟨_, rfl, _, _, rfl, .inr (T.tup_RESERVED _), rfl, by decide +kernel, _, rfl, lastB _ (fun l => ?_) (fun _ => ?_)⟩
    · have l' : inV (.str x) ((["in", "fact", "if", "else", "end", "out"] : List Str).map V.str) = true := l
      rw [inV_strs] at l'
      have := of_decide_eq_true l'
      simp only [Bool.not_eq_true', List.contains_eq_mem, decide_eq_false_iff_not] at ok2
      exact absurd this ok2
    · refine ⟨_, rfl, x, rfl, fun D nD => ?_⟩
      refine lc_true (K := K) nD walk_str (by omega) (fun _ _ => trivial) ?_ ?_
      · rintro i v H1 H2 Q' hi s1 ⟨rfl, c, ec, rfl⟩ q'
        refine ⟨rfl, _, rfl, _, _, rfl, rfl, ?_⟩
        have hc : letters.cps.toList.contains c = true := by
          have := List.all_eq_true.mp ok3 c (by rw [← Array.mem_def]; exact Array.mem_of_getElem? ec)
          exact this
        rw [show decide (c ∈ ("abcdefghijklmnopqrstuvwxyz" : Str).cps.toList) = true from decide_eq_true (by simpa [letters] using hc)]
        exact q' _ (Same.refl _)
      · intro H2 bs s2 eD hb
        refine ⟨D, bs, rfl, SqL.of eD, ?_⟩
        rw [hb]
        exact q _ s2
/-! is_kind_value -/
theorem sc_is_kind_value : FnScope ["thing"] ["thing"] (defScope (top 37)) := ⟨rfl, rfl, rfl, by decide +kernel, rfl, by decide +kernel, by decide +kernel⟩
theorem kd_den {H : Hp} {k : Kd} {v : V} (h : Den K H k.d v) : ∃ a, v = .ref a ∧ SqT K H a [.str (if k.both then "both" else "up"), .int k.k] := by
  obtain ⟨a, vs, e, hT, x, r, rfl, hx, y, r2, rfl, hy, rfl⟩ := h
  rw [show x = V.str _ from hx, show y = V.int _ from hy] at hT
  exact ⟨a, e, hT⟩
def sp_is_kind_value (K : PySem.W.Frag) : Sp := fun vs H Q _ => ∃ (v : V) (k : Kd), vs = [v] ∧ Den K H k.d v ∧ k.ok = true ∧ ∀ H', Same H H' → Q (.bl true) H'
theorem ok_is_kind_value (T : Tx K mg) : FnOk P w K mg base CX0 3 302 (fdA K 302) ["thing"] (sp_is_kind_value K) := by
  refine (f_is_kind_value T).ok sc_is_kind_value (fun vs H Q E h => ?_) (fun cdv A outer s H vs Q E hr h => ⟨_, PSs.nox (pss_cons (ps_if (PW.pt (pw_or (pt_not (pt_val (pe_callB (k_isi K) (by rfl) (free_isinstance T) (by decide +kernel) (pa_cons (pv 0) (pa_cons (pe_bltn (v := .ty "tuple") (by rfl) (free_tuple T) (by decide +kernel) rfl) pa_nil))))) (pw_or (pt_cmpR op_ne (pe_callB (k_len K) (by rfl) (free_len T) (by decide +kernel) (pa_cons (pv 0) pa_nil)) pe_int (nomark _)) (pw_or1 (pt_not (pt_val (pe_callB (k_isi K) (by rfl) (free_isinstance T) (by decide +kernel) (pa_cons (pe_ix (k_ixT K) (pv 0) pe_int (fun _ _ => rfl)) (pa_cons (pe_bltn (v := .ty "str") (by rfl) (free_str T) (by decide +kernel) rfl) pa_nil))))))))) (pss_one (ps_ret pe_bl)) pss_nil)
  (pss_one (ps_ret (pe_and (pe_cmpR (k_inS K) (pe_ix (k_ixT K) (pv 0) pe_int (fun _ _ => rfl)) (pe_tup (pa_cons pe_str (pa_cons pe_str pa_nil))) (by rfl)) (pe_one (pe_call (ok_is_between T) (hr.mono (by decide)) (by rfl) (g_is_between T) (f_is_between T).kp (b_is_between T) .nil pass0 (pa_cons (pe_ix (k_ixT K) (pv 0) pe_int (fun _ _ => rfl)) (pa_cons pe_int (pa_cons (pe_glob (v := .int _) (by rfl) (int_MOST_KIND T).choose_spec ⟨_, rfl⟩) pa_nil))))))))), ?_⟩)
  · obtain ⟨v, k, rfl, _⟩ := h; rfl
  · obtain ⟨v, k, rfl, hv, ok, q⟩ := h
    obtain ⟨a, rfl, aT⟩ := kd_den hv
    refine ⟨_, rfl, use_isi (ty_tup aT) (by decide +kernel) ⟨true, rfl, iteF ?_⟩⟩
    refine ⟨_, rfl, a, _, rfl, .inr aT, rfl, _, rfl, lastB _ (fun l => absurd l (by simp)) (fun _ => ?_)⟩
    refine ⟨_, rfl, a, _, _, _, rfl, rfl, aT, rfl, use_isi (.base (.str _)) (by decide +kernel) ⟨true, rfl, iteF ?_⟩⟩
    refine ⟨_, rfl, a, _, _, _, rfl, rfl, aT, rfl, szl (show 2 ≤ 1000000 by decide), fun t nt => ⟨t, _, rfl, .inr (.inl (.inl upd_same)), rfl, by decide, true, ?_, iteT ?_⟩⟩
    · cases k.both <;> rfl
    · have e := of_decide_eq_true ok
      refine ⟨_, rfl, a, _, _, _, rfl, rfl, Same.ext (same_new nt) _ _ aT, rfl, _, _, _, rfl, ?_⟩
      rw [decide_eq_true (show (1 : Int) ≤ (k.k : Int) ∧ (k.k : Int) ≤ 30 by omega)]
      exact q _ (same_new nt)
/-! fits_kind -/
theorem sc_fits_kind : FnScope ["value", "kind", "bound"] ["value", "kind", "bound"] (defScope (top 38)) := ⟨rfl, rfl, rfl, by decide +kernel, rfl, by decide +kernel, by decide +kernel⟩
def fits (k : Kd) (v b : Int) : Bool := decide ((if k.both then -(k.k : Int) * b else 0) ≤ v ∧ v ≤ (k.k : Int) * b)
def sp_fits_kind (K : PySem.W.Frag) : Sp := fun vs H Q _ => ∃ (x b : Int) (v : V) (k : Kd), vs = [.int x, v, .int b] ∧ Den K H k.d v ∧ k.k ≤ 1000 ∧ Q (.bl (fits k x b)) H
theorem ok_fits_kind (T : Tx K mg) : FnOk P w K mg base CX0 1 309 (fdA K 309) ["value", "kind", "bound"] (sp_fits_kind K) := by
  refine (f_fits_kind T).ok sc_fits_kind (fun vs H Q E h => ?_) (fun cdv A outer s H vs Q E hr h => ⟨_, PSs.nox (pss_one (ps_ret (pe_chain op_le op_le (pe_ifExp (pt_cmpR op_eq (pe_ix (k_ixT K) (pv 1) pe_int (fun _ _ => rfl)) pe_str (nomark _)) pe_int (pe_op op_mul (pe_un un_neg (pe_ix (k_ixT K) (pv 1) pe_int (fun _ _ => rfl))) (pv 2))) (pv 0) (pe_op op_mul (pe_ix (k_ixT K) (pv 1) pe_int (fun _ _ => rfl)) (pv 2))))), ?_⟩)
  · obtain ⟨x, b, v, k, rfl, _⟩ := h; rfl
  · obtain ⟨x, b, v, k, rfl, hv, hk, q⟩ := h
    obtain ⟨a, rfl, aT⟩ := kd_den hv
    have fin : ∀ lo : Int, lo = (if k.both then -(k.k : Int) * b else 0) → rI0 (fun i j => .bl (decide (i ≤ j))) (.int lo) (.int x) H (fun z H3 => ∃ k', z = .bl k' ∧ (if k' = true then tOp (rI CMul fun i j => .int (i * j)) (tOp (rIxT K) (tVar 1) (tC (.int 1))) (tVar 2) [some (.int x), some (.ref a), some (.int b)] H3 (fun w' H4 => rI0 (fun i j => .bl (decide (i ≤ j))) (.int x) w' H4 Q) else Q (.bl false) H3)) := by
      intro lo elo
      refine ⟨_, _, rfl, rfl, _, rfl, lastB _ (fun l => ?_) (fun l => ?_)⟩
      · refine ⟨_, rfl, a, _, _, _, rfl, rfl, aT, rfl, _, rfl, _, _, rfl, rfl, .inl (by omega), _, _, rfl, rfl, ?_⟩
        have e : fits k x b = decide (x ≤ (k.k : Int) * b) := by
          unfold fits
          rw [← elo]
          exact decide_eq_decide.mpr ⟨fun h => h.2, fun h => ⟨of_decide_eq_true l, h⟩⟩
        rw [e] at q; exact q
      · have e : fits k x b = false := by
          unfold fits
          rw [← elo]
          exact decide_eq_false fun h => of_decide_eq_false l h.1
        rw [e] at q; exact q
    refine ⟨_, rfl, a, _, _, _, rfl, rfl, aT, rfl, rfl, _, rfl, lastB _ (fun l => ?_) (fun l => ?_)⟩
    · refine ⟨_, rfl, fin 0 ?_⟩
      rw [if_neg]
      intro z
      rw [z] at l
      exact absurd l (by decide)
    · refine ⟨_, rfl, a, _, _, _, rfl, rfl, aT, rfl, _, rfl, _, rfl, _, _, rfl, rfl, .inl (by omega), _, rfl, fin _ ?_⟩
      rw [if_pos]
      cases h : k.both with
      | true => rfl
      | false => rw [h] at l; exact absurd l (by decide)
/-! has_name -/
theorem sc_has_name : FnScope ["known", "thing"] ["known", "thing"] (defScope (top 39)) := ⟨rfl, rfl, rfl, by decide +kernel, rfl, by decide +kernel, by decide +kernel⟩
def sp_has_name (K : PySem.W.Frag) : Sp := fun vs H Q _ => ∃ (d : Addr) (l : NL) (x : Str), vs = [.ref d, .str x] ∧ DD K H d l ∧ Q (.bl (getL l x).isSome) H
theorem ok_has_name (T : Tx K mg) : FnOk P w K mg base CX0 1 316 (fdA K 316) ["known", "thing"] (sp_has_name K) := by
  refine (f_has_name T).ok sc_has_name (fun vs H Q E h => ?_) (fun cdv A outer s H vs Q E hr h => ⟨_, PSs.nox (pss_one (ps_ret (pe_and (pe_callB (k_isi K) (by rfl) (free_isinstance T) (by decide +kernel) (pa_cons (pv 1) (pa_cons (pe_bltn (v := .ty "str") (by rfl) (free_str T) (by decide +kernel) rfl) pa_nil))) (pe_one (pe_cmp (pc_din (hu_of hr) (pv 1) (pv 0))))))), ?_⟩)
  · obtain ⟨d, l, x, rfl, _⟩ := h; rfl
  · obtain ⟨d, l, x, rfl, hd, q⟩ := h
    refine ⟨_, rfl, use_isi (.base (.str x)) (by decide +kernel) ⟨true, rfl, iteT ?_⟩⟩
    cases e : getL l x with
    | none =>
      rw [e] at q
      exact ⟨_, rfl, _, rfl, d, none, rfl, hd.no e, q⟩
    | some y =>
      rw [e] at q
      obtain ⟨v, g, _⟩ := hd.get e
      exact ⟨_, rfl, _, rfl, d, some v, rfl, g, q⟩
end
end K28
end
section
set_option Elab.async false
set_option linter.all false
set_option maxRecDepth 100000
set_option maxHeartbeats 4000000
set_option exponentiation.threshold 2000
namespace K28
open PySem L2
theorem in_den {K : PySem.W.Frag} {H : Hp} {p : Str × Kd} {v : V} (h : Den K H (inD p) v) : ∃ a y, v = .ref a ∧ SqT K H a [.str p.1, y] ∧ Den K H p.2.d y := by
  obtain ⟨a, x, y, e, hT, hx, hy⟩ := Den.pair h
  rw [show x = V.str _ from hx] at hT
  exact ⟨a, y, e, hT, hy⟩
theorem map_at1 {α : Type} {F : α → Dt} {l : List α} {us : List V} {i : Nat} {v : V} {K : PySem.W.Frag} {H : Hp} (h : DenL K H (l.map F) us) (e : us[i]? = some v) : ∃ p, l[i]? = some p ∧ Den K H (F p) v := by
  obtain ⟨d, ed, dd⟩ := h.at e
  rw [List.getElem?_map] at ed
  cases er : l[i]? with
  | none => rw [er] at ed; cases ed
  | some r =>
    rw [er] at ed
    exact ⟨r, rfl, by rw [show F r = d from Option.some.inj ed]; exact dd⟩
section
variable {P : Program} {w : World} {K : PySem.W.Frag} {mg : Str → Option Value} {base : Heap}
/-! are_ins_value -/
theorem sc_are_ins_value : FnScope ["thing", "names", "pair"] ["thing"] (defScope (top 40)) := ⟨rfl, rfl, rfl, by decide +kernel, rfl, by decide +kernel, by decide +kernel⟩
structure InsOk (ins : List (Str × Kd)) : Prop where
  in1 : 1 ≤ ins.length
  in2 : ins.length ≤ 6
  nm : ∀ q ∈ ins, okName q.1 = true ∧ q.2.ok = true
  nd : (ins.map (·.1)).Nodup
def sp_are_ins_value (K : PySem.W.Frag) : Sp := fun vs H Q _ => ∃ (v : V) (ins : List (Str × Kd)), vs = [v] ∧ Den K H (.t (ins.map inD)) v ∧ InsOk ins ∧ ∀ H', Same H H' → Q (.bl true) H'
theorem ok_are_ins_value (T : Tx K mg) : FnOk P w K mg base CX0 4 323 (fdA K 323) ["thing"] (sp_are_ins_value K) := by
  refine (f_are_ins_value T).ok sc_are_ins_value (fun vs H Q E h => ?_) (fun cdv A outer s H vs Q E hr h => ⟨_, PSs.nox (pss_cons (ps_if (PW.pt (pw_or (pt_not (pt_val (pe_callB (k_isi K) (by rfl) (free_isinstance T) (by decide +kernel) (pa_cons (pv 0) (pa_cons (pe_bltn (v := .ty "tuple") (by rfl) (free_tuple T) (by decide +kernel) rfl) pa_nil))))) (pw_or1 (pt_not (pt_chain op_le op_le pe_int (pe_callB (k_len K) (by rfl) (free_len T) (by decide +kernel) (pa_cons (pv 0) pa_nil)) (pe_glob (v := .int _) (by rfl) (int_MOST_INPUTS T).choose_spec ⟨_, rfl⟩)))))) (pss_one (ps_ret pe_bl)) pss_nil)
  (pss_cons (ps_set (i := 1) sc_are_ins_value.nd rfl (.inl rfl) pe_dnewK)
  (pss_cons (ps_for PassesOwn.never rfl (k_pit K (pv 0)) (pg_name (i := 2) sc_are_ins_value.nd rfl (.inl rfl) (hf := (.inl rfl)))
    (pss_cons (ps_if (PW.pt (pw_or (pt_not (pt_val (pe_callB (k_isi K) (by rfl) (free_isinstance T) (by decide +kernel) (pa_cons (pv 2) (pa_cons (pe_bltn (v := .ty "tuple") (by rfl) (free_tuple T) (by decide +kernel) rfl) pa_nil))))) (pw_or (pt_cmpR op_ne (pe_callB (k_len K) (by rfl) (free_len T) (by decide +kernel) (pa_cons (pv 2) pa_nil)) pe_int (nomark _)) (pw_or (pt_not (pt_val (pe_call (ok_is_name_value T) (hr.mono (by decide)) (by rfl) (g_is_name_value T) (f_is_name_value T).kp (b_is_name_value T) .nil pass0 (pa_cons (pe_ix (k_ixT K) (pv 2) pe_int (fun _ _ => rfl)) pa_nil)))) (pw_or1 (pt_not (pt_val (pe_call (ok_is_kind_value T) (hr.mono (by decide)) (by rfl) (g_is_kind_value T) (f_is_kind_value T).kp (b_is_kind_value T) .nil pass0 (pa_cons (pe_ix (k_ixT K) (pv 2) pe_int (fun _ _ => rfl)) pa_nil))))))))) (pss_one (ps_ret pe_bl)) pss_nil)
  (pss_one (ps_dput (hu_of hr) (pv 1) (pe_ix (k_ixT K) (pv 2) pe_int (fun _ _ => rfl)) pe_bl rfl))))
  (pss_one (ps_ret (pe_cmpR op_eq (pe_callB call_lenD (by rfl) (free_len T) (by decide +kernel) (pa_cons (pv 1) pa_nil)) (pe_callB (k_len K) (by rfl) (free_len T) (by decide +kernel) (pa_cons (pv 0) pa_nil)) (nomark _))))))), ?_⟩)
  · obtain ⟨v, ins, rfl, _⟩ := h; rfl
  · obtain ⟨v, ins, rfl, ⟨a, us, rfl, aT, aL⟩, ok, q⟩ := h
    have ln := aL.length
    rw [List.length_map] at ln
    have i1 := ok.in1
    have i2 := ok.in2
    have l1 : (1 : Int) ≤ (us.length : Int) := by omega
    have l3 : (!decide ((us.length : Int) ≤ 6)) = false := by rw [decide_eq_true (by omega)]; rfl
    refine ⟨_, rfl, use_isi (ty_tup aT) (by decide +kernel) ⟨true, rfl, iteF ?_⟩⟩
    refine ⟨_, rfl, a, _, rfl, .inr aT, _, _, rfl, rfl, _, rfl, lastB _ (fun _ => ?_) (fun l => absurd l1 (of_decide_eq_false l))⟩
    refine ⟨_, _, rfl, rfl, _, rfl, lastB _ (fun l => absurd (l.symm.trans l3) (by decide)) (fun _ => ?_)⟩
    refine fun d nd => ?_
    refine ⟨_, rfl, a, rfl, ⟨us, Same.ext (same_new nd) _ _ aT⟩, ?_⟩
    refine for_it (walk_tup (K := K) (a := a) (xs := us)) (fun i σ H' => (∃ o, σ = [some (.ref a), some (.ref d), o]) ∧ Same H H' ∧ DD K H' d ((ins.take i).map fun p => (p.1, Dt.b true)))
      ⟨⟨_, rfl⟩, same_new nd, DD.new⟩ (fun i σ H' _ h => Same.ext h.2.1 _ _ aT) ?_ ?_
    · rintro i x σ H1 H2 hi ⟨⟨o, rfl⟩, s1, hd⟩ ⟨rfl, ex⟩
      obtain ⟨p, ep, dp⟩ := map_at1 (DenL.mono (Same.ext s1) aL) ex
      obtain ⟨b, y, rfl, bT, dy⟩ := in_den dp
      have okp := ok.nm p (List.mem_of_getElem? ep)
      refine ⟨_, rfl, use_isi (ty_tup bT) (by decide +kernel) ⟨true, rfl, iteF ?_⟩⟩
      refine ⟨_, rfl, b, _, rfl, .inr bT, rfl, _, rfl, lastB _ (fun l => absurd l (by simp)) (fun _ => ?_)⟩
      refine ⟨_, rfl, b, _, _, _, rfl, rfl, bT, rfl, p.1, rfl, okp.1, fun H3 s3 => ⟨true, rfl, iteF ?_⟩⟩
      refine ⟨_, rfl, b, _, _, _, rfl, rfl, Same.ext s3 _ _ bT, rfl, y, p.2, rfl, dy.mono (Same.ext s3), okp.2, fun H4 s4 => ⟨true, rfl, iteF ?_⟩⟩
      have s34 := s3.trans s4
      have hd4 := hd.same s34
      obtain ⟨kvs, hput, hd5⟩ := hd4.put (x := p.1) (d := .b true) (v := .bl true) rfl (by simp; omega)
      refine ⟨_, rfl, _, rfl, b, _, _, _, rfl, rfl, Same.ext s34 _ _ bT, rfl, d, _, rfl, hput, ⟨_, rfl⟩, same_upd (s1.trans s34) nd, ?_⟩
      have en : getL ((ins.take i).map fun p => (p.1, Dt.b true)) p.1 = none := by
        rw [getL_none]
        intro r hr e
        obtain ⟨q', hq', rfl⟩ := List.mem_map.mp hr
        obtain ⟨j, hj, ej⟩ := List.mem_iff_getElem.mp hq'
        rw [List.getElem_take] at ej
        have hj2 : j < i := by rw [List.length_take] at hj; omega
        have hi2 : i < ins.length := (List.getElem?_eq_some_iff.mp ep).1
        have h1 : (ins.map (·.1))[j]'(by simp; omega) = q'.1 := by rw [List.getElem_map, ej]
        have h2 : (ins.map (·.1))[i]'(by simp; omega) = p.1 := by rw [List.getElem_map, (List.getElem?_eq_some_iff.mp ep).2]
        exact List.pairwise_iff_getElem.mp ok.nd j i (by simp; omega) (by simp; omega) hj2 (by rw [h1, h2]; exact e)
      rw [putL_new en] at hd5
      rw [List.take_add_one, ep, List.map_append]
      exact hd5
    · rintro σ H1 ⟨⟨o, rfl⟩, s1, hd⟩
      rw [ln, List.take_length] at hd
      obtain ⟨kvs, ek, lk⟩ := hd.at
      refine ⟨_, rfl, d, kvs, rfl, ek, _, rfl, a, us, rfl, .inr (Same.ext s1 _ _ aT), rfl, ?_⟩
      rw [lk, List.length_map, ln, decide_eq_true rfl]
      exact q _ s1
/-! is_fact_value -/
theorem sc_is_fact_value : FnScope ["names", "thing"] ["names", "thing"] (defScope (top 41)) := ⟨rfl, rfl, rfl, by decide +kernel, rfl, by decide +kernel, by decide +kernel⟩
theorem ft_den {H : Hp} {p : Str × Str} {v : V} (h : Den K H (ftD p) v) : ∃ a, v = .ref a ∧ SqT K H a [.str p.1, .str p.2] := by
  obtain ⟨a, x, y, e, hT, hx, hy⟩ := Den.pair h
  rw [show x = V.str _ from hx, show y = V.str _ from hy] at hT
  exact ⟨a, e, hT⟩
def sp_is_fact_value (K : PySem.W.Frag) : Sp := fun vs H Q _ => ∃ (d : Addr) (l : NL) (v : V) (p : Str × Str), vs = [.ref d, v] ∧ DD K H d l ∧ Den K H (ftD p) v ∧ (getL l p.1).isSome = true ∧ (getL l p.2).isSome = true ∧ p.1 ≠ p.2 ∧ Q (.bl true) H
theorem ok_is_fact_value (T : Tx K mg) : FnOk P w K mg base CX0 2 330 (fdA K 330) ["names", "thing"] (sp_is_fact_value K) := by
  refine (f_is_fact_value T).ok sc_is_fact_value (fun vs H Q E h => ?_) (fun cdv A outer s H vs Q E hr h => ⟨_, PSs.nox (pss_cons (ps_if (PW.pt (pw_or (pt_not (pt_val (pe_callB (k_isi K) (by rfl) (free_isinstance T) (by decide +kernel) (pa_cons (pv 1) (pa_cons (pe_bltn (v := .ty "tuple") (by rfl) (free_tuple T) (by decide +kernel) rfl) pa_nil))))) (pw_or1 (pt_cmpR op_ne (pe_callB (k_len K) (by rfl) (free_len T) (by decide +kernel) (pa_cons (pv 1) pa_nil)) pe_int (nomark _))))) (pss_one (ps_ret pe_bl)) pss_nil)
  (pss_one (ps_ret (pe_and (pe_call (ok_has_name T) (hr.mono (by decide)) (by rfl) (g_has_name T) (f_has_name T).kp (b_has_name T) .nil pass0 (pa_cons (pv 0) (pa_cons (pe_ix (k_ixT K) (pv 1) pe_int (fun _ _ => rfl)) pa_nil))) (pe_and (pe_call (ok_has_name T) (hr.mono (by decide)) (by rfl) (g_has_name T) (f_has_name T).kp (b_has_name T) .nil pass0 (pa_cons (pv 0) (pa_cons (pe_ix (k_ixT K) (pv 1) pe_int (fun _ _ => rfl)) pa_nil))) (pe_one (pe_cmpR op_ne (pe_ix (k_ixT K) (pv 1) pe_int (fun _ _ => rfl)) (pe_ix (k_ixT K) (pv 1) pe_int (fun _ _ => rfl)) (nomark _)))))))), ?_⟩)
  · obtain ⟨d, l, v, p, rfl, _⟩ := h; rfl
  · obtain ⟨d, l, v, p, rfl, hd, hv, g1, g2, ne, q⟩ := h
    obtain ⟨b, rfl, bT⟩ := ft_den hv
    refine ⟨_, rfl, use_isi (ty_tup bT) (by decide +kernel) ⟨true, rfl, iteF ?_⟩⟩
    refine ⟨_, rfl, b, _, rfl, .inr bT, rfl, _, rfl, lastB _ (fun l => absurd l (by simp)) (fun _ => ?_)⟩
    refine ⟨_, rfl, _, rfl, b, _, _, _, rfl, rfl, bT, rfl, d, l, p.1, rfl, hd, ?_⟩
    rw [g1]
    refine ⟨true, rfl, iteT ?_⟩
    refine ⟨_, rfl, _, rfl, b, _, _, _, rfl, rfl, bT, rfl, d, l, p.2, rfl, hd, ?_⟩
    rw [g2]
    refine ⟨true, rfl, iteT ?_⟩
    refine ⟨_, rfl, b, _, _, _, rfl, rfl, bT, rfl, _, rfl, b, _, _, _, rfl, rfl, bT, rfl, rfl, ?_⟩
    rw [decide_eq_false (fun z => ne (V.str.inj z))]
    exact q
/-! are_facts_value -/
theorem sc_are_facts_value : FnScope ["ins", "thing", "names", "fact", "one", "other"] ["ins", "thing"] (defScope (top 42)) := ⟨rfl, rfl, rfl, by decide +kernel, rfl, by decide +kernel, by decide +kernel⟩
/-- the names and kinds of the inputs, as a dict's -/
def insL (ins : List (Str × Kd)) : NL := ins.map fun p => (p.1, p.2.d)
/-- the inputs' tuple, whose record is known -/
def InsAt (K : PySem.W.Frag) (H : Hp) (ins : List (Str × Kd)) (v : V) : Prop := ∃ (a : Addr) (o : Obj) (us : List V), v = .ref a ∧ H a = some (.frz o (.tup us)) ∧ o.dict = none ∧ DenL K H (ins.map inD) us
theorem InsAt.den {H : Hp} {ins : List (Str × Kd)} {v : V} (h : InsAt K H ins v) : Den K H (.t (ins.map inD)) v := by
  obtain ⟨a, o, us, e, h1, _, h3⟩ := h
  exact ⟨a, us, e, .inl (.inr ⟨o, h1⟩), h3⟩
theorem InsAt.same {H H' : Hp} {ins : List (Str × Kd)} {v : V} (h : InsAt K H ins v) (s : Same H H') : InsAt K H' ins v := by
  obtain ⟨a, o, us, e, h1, h2, h3⟩ := h
  exact ⟨a, o, us, e, s _ _ h1, h2, DenL.mono (Same.ext s) h3⟩
theorem ins_pairs {H : Hp} : ∀ {ins : List (Str × Kd)} {us : List V}, DenL K H (ins.map inD) us → ∃ (ps : List Addr) (kvs : List (Key × V)), us = ps.map V.ref ∧ Paired (fun p kv => SqT K H p [kV kv.1, kv.2]) ps kvs ∧ Paired (DR K H) (insL ins) kvs
  | [], _, h => ⟨[], [], h, .nil, .nil⟩
  | p :: ins, _, ⟨v, r, e, h1, h2⟩ => by
    obtain ⟨a, y, rfl, hT, hy⟩ := in_den h1
    obtain ⟨ps, kvs, e2, h3, h4⟩ := ins_pairs h2
    exact ⟨a :: ps, (.inr p.1, y) :: kvs, by rw [e, e2]; rfl, .cons hT h3, .cons ⟨rfl, hy⟩ h4⟩
theorem merge_app : ∀ (kvs acc : List (Key × V)), ((acc ++ kvs).map (·.1)).Nodup → mergeK acc kvs = acc ++ kvs
  | [], acc, _ => by rw [List.append_nil]; rfl
  | p :: kvs, acc, h => by
    show mergeK (putK acc p.1 p.2) kvs = _
    have hn : valV acc p.1 = none := by
      cases e : valV acc p.1 with
      | none => rfl
      | some v =>
        have := valV_in e
        rw [List.map_append, List.map_cons] at h
        have h2 := (List.nodup_append.mp h).2.2 _ this p.1 (List.mem_cons_self ..)
        exact absurd rfl h2
    rw [putK_new _ hn, merge_app kvs (acc ++ [(p.1, p.2)]) (by simpa using h)]
    simp
theorem merge_all {kvs : List (Key × V)} (h : (kvs.map (·.1)).Nodup) : mergeK [] kvs = kvs := merge_app kvs [] h
theorem keys_of {H : Hp} {l : NL} {kvs : List (Key × V)} (h : Paired (DR K H) l kvs) : kvs.map (·.1) = l.map (fun p => (.inr p.1 : Key)) := by
  induction h with
  | nil => rfl
  | cons h t ih => rw [List.map_cons, List.map_cons, ih, h.1]
theorem nodup_inr {l : List Str} (h : l.Nodup) : (l.map (fun x => (.inr x : Key))).Nodup := by
  rw [List.nodup_iff_pairwise_ne] at h ⊢
  rw [List.pairwise_map]
  exact h.imp fun z e => z (Sum.inr.inj e)
/-- dict(ins) -/
theorem use_dictI {H : Hp} {ins : List (Str × Kd)} {v : V} {Q : VK} (h : InsAt K H ins v) (nd : (ins.map (·.1)).Nodup) (q : ∀ d H', H d = none → Same H H' → DD K H' d (insL ins) → Q (.ref d) H') : kDictT K [v] H Q := by
  unfold kDictT
  obtain ⟨a, o, us, rfl, h1, h2, h3⟩ := h
  obtain ⟨ps, kvs, rfl, h4, h5⟩ := ins_pairs h3
  refine ⟨a, o, ps, kvs, rfl, h1, h2, h4, fun p hp => ?_⟩
  have e : mergeK [] kvs = kvs := merge_all (by
    rw [keys_of h5]
    have : (insL ins).map (fun p => (.inr p.1 : Key)) = (ins.map (·.1)).map (fun x => (.inr x : Key)) := by unfold insL; rw [List.map_map, List.map_map]; rfl
    rw [this]
    exact nodup_inr nd)
  rw [e]
  exact q p _ hp (same_new hp) (DD.copy h5 hp)
theorem insL_some {ins : List (Str × Kd)} {x : Str} (h : x ∈ ins.map (·.1)) : (getL (insL ins) x).isSome = true := by
  cases e : getL (insL ins) x with
  | some d => rfl
  | none =>
    rw [getL_none] at e
    obtain ⟨p, hp, ex⟩ := List.mem_map.mp h
    exact absurd ex (e (p.1, p.2.d) (List.mem_map.mpr ⟨p, hp, rfl⟩))
structure FactsOk (ins : List (Str × Kd)) (facts : List (Str × Str)) : Prop where
  f1 : facts.length ≤ 6
  f2 : ∀ q ∈ facts, q.1 ∈ ins.map (·.1) ∧ q.2 ∈ ins.map (·.1) ∧ q.1 ≠ q.2
  f3 : ∀ i, i + 1 < facts.length → ftLt (facts.getD i ("", "")) (facts.getD (i + 1) ("", ""))
def sp_are_facts_value (K : PySem.W.Frag) : Sp := fun vs H Q _ => ∃ (v u : V) (ins : List (Str × Kd)) (facts : List (Str × Str)), vs = [v, u] ∧ InsAt K H ins v ∧ Den K H (.t (facts.map ftD)) u ∧ InsOk ins ∧ FactsOk ins facts ∧ ∀ H', Same H H' → Q (.bl true) H'
theorem ok_are_facts_value (T : Tx K mg) : FnOk P w K mg base CX0 3 335 (fdA K 335) ["ins", "thing"] (sp_are_facts_value K) := by
  refine (f_are_facts_value T).ok sc_are_facts_value (fun vs H Q E h => ?_) (fun cdv A outer s H vs Q E hr h => ⟨_, PSs.nox (pss_cons (ps_set (i := 2) sc_are_facts_value.nd rfl (.inr rfl) (pe_callTy (k_dictT K rfl) (by rfl) (free_dict T) (by decide +kernel) (pa_cons (pv 0) pa_nil)))
  (pss_cons (ps_if (PW.pt (pw_or (pt_not (pt_val (pe_callB (k_isi K) (by rfl) (free_isinstance T) (by decide +kernel) (pa_cons (pv 1) (pa_cons (pe_bltn (v := .ty "tuple") (by rfl) (free_tuple T) (by decide +kernel) rfl) pa_nil))))) (pw_or1 (pt_cmpR op_gt (pe_callB (k_len K) (by rfl) (free_len T) (by decide +kernel) (pa_cons (pv 1) pa_nil)) (pe_glob (v := .int _) (by rfl) (int_MOST_FACTS T).choose_spec ⟨_, rfl⟩) (nomark _))))) (pss_one (ps_ret pe_bl)) pss_nil)
  (pss_cons (ps_if (pt_not (pt_val (pe_callB (k_all K rfl) (by rfl) (free_all T) (by decide +kernel) (pa_cons (pe_lc (own := [("fact", 3)]) rfl sc_are_facts_value.nd (k_pit K (pv 1)) (blkOk_by (N := ["ins", "thing", "names", "fact", "one", "other"]) (sc := (defScope (top 42))) (by decide +kernel)) (fun _ _ _ _ _ => (pg_name (i := 3) sc_are_facts_value.nd rfl (.inl rfl) (hf := (.inr rfl)))) (fun _ _ _ _ _ => pts_nil) (fun _ _ _ _ _ => (pe_call (ok_is_fact_value T) (hr.mono (by decide)) (by rfl) (g_is_fact_value T) (f_is_fact_value T).kp (b_is_fact_value T) .nil pass0 (pa_cons (pv 2) (pa_cons (pv 3) pa_nil))))) pa_nil)))) (pss_one (ps_ret pe_bl)) pss_nil)
  (pss_one (ps_ret (pe_callB (k_all K rfl) (by rfl) (free_all T) (by decide +kernel) (pa_cons (pe_lc (own := [("one", 4), ("other", 5)]) rfl sc_are_facts_value.nd (k_zip K false false (by rfl) (free_zip T) (pa_cons (pv 1) (pa_cons (pe_slice (k_slT K) (pv 1) (po_some pe_int) po_none) pa_nil))) (blkOk_by (N := ["ins", "thing", "names", "fact", "one", "other"]) (sc := (defScope (top 42))) (by decide +kernel)) (fun _ _ _ _ _ => (k_tgt K 2 rfl (pgs_cons (pg_name (i := 4) sc_are_facts_value.nd rfl (.inl rfl) (hf := (.inr rfl))) (pgs_cons (pg_name (i := 5) sc_are_facts_value.nd rfl (.inl rfl) (hf := (.inr rfl))) pgs_nil)))) (fun _ _ _ _ _ => pts_nil) (fun _ _ _ _ _ => (pe_cmpR (k_ltD K hr.units) (pv 4) (pv 5) (nomark _)))) pa_nil))))))), ?_⟩)
  · obtain ⟨v, u, ins, facts, rfl, _⟩ := h; rfl
  · obtain ⟨v, u, ins, facts, rfl, hv, ⟨a, us, rfl, aT, aL⟩, ok, fk, q⟩ := h
    have ln := aL.length
    rw [List.length_map] at ln
    have f1 := fk.f1
    refine ⟨_, rfl, use_dictI hv ok.nd fun d H1 nd s1 hd => ?_⟩
    have aT1 := Same.ext s1 _ _ aT
    refine ⟨_, rfl, use_isi (ty_tup aT1) (by decide +kernel) ⟨true, rfl, iteF ?_⟩⟩
    refine ⟨_, rfl, a, _, rfl, .inr aT1, _, _, rfl, rfl, _, rfl, lastB _ (fun l => absurd (of_decide_eq_true l) (by omega)) (fun _ => ?_)⟩
    refine ⟨_, rfl, a, rfl, ⟨us, aT1⟩, fun D nD => lc_true (K := K) nD (walk_tup (K := K) (a := a) (xs := us)) (by omega) (fun Hh s => Same.ext s _ _ aT1) ?_ ?_⟩
    · rintro i x H2 H3 Q' hi s2 ⟨rfl, ex⟩ q'
      obtain ⟨p, ep, dp⟩ := map_at1 (DenL.mono (Same.ext (s1.trans s2)) aL) ex
      have fp := fk.f2 p (List.mem_of_getElem? ep)
      exact ⟨rfl, _, rfl, _, rfl, d, _, _, p, rfl, hd.same s2, dp, insL_some fp.1, insL_some fp.2.1, fp.2.2, q' _ (Same.refl _)⟩
    · intro H2 bs s2 eD hb
      refine ⟨D, bs, rfl, SqL.of eD, ?_⟩
      rw [hb]
      refine ⟨true, rfl, iteF ?_⟩
      have s12 := s1.trans s2
      have aT2 := Same.ext s12 _ _ aT
      refine ⟨_, rfl, _, rfl, _, rfl, use_sl aT2 fun c H3 s3 hc => ?_⟩
      have e1 : cutV us (some 1) none = us.drop 1 := by
        by_cases z : 1 ≤ us.length
        · exact cut_drop (k := 1) z
        · have : us = [] := List.length_eq_zero_iff.mp (by omega)
          rw [this]; rfl
      rw [e1] at hc
      have s13 := s12.trans s3
      have aT3 := Same.ext s13 _ _ aT
      refine ⟨a, c, us, us.drop 1, rfl, aT3, hc, fun D2 nD2 => ?_⟩
      refine lc_true (K := K) nD2 (walk_zipB (k := false) (j := false) (K := K) (a := a) (b := c) (xs := us) (ys := us.drop 1) rfl) (by omega) (fun Hh s => ⟨Same.ext s _ _ aT3, Same.ext s _ _ hc⟩) ?_ ?_
      · rintro i x H4 H5 Q' hi s4 ⟨A', e, f, rfl, nA, rfl, ee, ef⟩ q'
        have ee2 : us[i]? = some e := ee
        have ef2 : (us.drop 1)[i]? = some f := ef
        rw [List.getElem?_drop] at ef2
        have dL5 := DenL.mono (Same.ext (s13.trans (s4.trans (same_new (o := .tup [e, f]) nA)))) aL
        obtain ⟨p, ep, dp⟩ := map_at1 dL5 ee2
        obtain ⟨r, er, dr⟩ := map_at1 dL5 ef2
        refine g_pair (.inl (.inl upd_same)) ⟨rfl, _, rfl, _, rfl, (ftD p).py, (ftD r).py, dp.dp, dr.dp, by simp [ftD, Dt.py, pyL, PySem.W.alike, PySem.W.alikeAll], by simp [ftD, Dt.py], by simp [ftD, Dt.py, pyL, PyData.depth, PyData.depthAll], ?_⟩
        have hi1 := (List.getElem?_eq_some_iff.mp er).1
        have lt := fk.f3 i (by omega)
        have e1 : facts.getD i ("", "") = p := by rw [List.getD_eq_getElem?_getD, ep]; rfl
        have e2 : facts.getD (i + 1) ("", "") = r := by rw [List.getD_eq_getElem?_getD, show i + 1 = 1 + i by omega, er]; rfl
        rw [e1, e2] at lt
        rw [show PySem.W.dataLt (ftD p).py (ftD r).py = true from lt]
        exact q' _ (same_new nA)
      · intro H4 bs s4 eD2 hb2
        refine ⟨D2, bs, rfl, SqL.of eD2, ?_⟩
        rw [hb2]
        exact q _ (s13.trans s4)
end
end K28
end
section
set_option Elab.async false
set_option linter.all false
set_option maxRecDepth 100000
set_option maxHeartbeats 4000000
set_option exponentiation.threshold 2000
namespace K28
open PySem L2
theorem st_den {K : PySem.W.Frag} {H : Hp} {p : Stm} {v : V} (h : Den K H p.d v) : ∃ a y m, v = .ref a ∧ SqT K H a [.str p.op.str, .str p.name, y, m, .str p.other] ∧ Den K H p.kd.d y ∧ Den K H p.mid m := by
  obtain ⟨a, vs, e, hT, x1, r1, rfl, h1, x2, r2, rfl, h2, x3, r3, rfl, h3, x4, r4, rfl, h4, x5, r5, rfl, h5, rfl⟩ := h
  rw [show x1 = V.str _ from h1, show x2 = V.str _ from h2, show x5 = V.str _ from h5] at hT
  exact ⟨a, x3, x4, e, hT, h3, h4⟩
theorem kd_fit (k : Kd) : k.d.fit 60 = true := by
  have h1 : PyData.strOk "both" = true := by decide +kernel
  have h2 : PyData.strOk "up" = true := by decide +kernel
  refine fit_mono 2 60 _ (by decide) ?_
  unfold Kd.d
  simp only [Dt.fit, List.all_cons, List.all_nil, Bool.and_true]
  cases k.both
  · exact h2
  · exact h1
section
variable {P : Program} {w : World} {K : PySem.W.Frag} {mg : Str → Option Value} {base : Heap}
/-! is_if, items_in -/
theorem sc_is_if : FnScope ["thing"] ["thing"] (defScope (top 43)) := ⟨rfl, rfl, rfl, by decide +kernel, rfl, by decide +kernel, by decide +kernel⟩
def sp_is_if (K : PySem.W.Frag) : Sp := fun vs H Q _ => ∃ (v : V) (p : Stm), vs = [v] ∧ Den K H p.d v ∧ Q (.bl false) H
theorem ok_is_if (T : Tx K mg) : FnOk P w K mg base CX0 1 342 (fdA K 342) ["thing"] (sp_is_if K) := by
  refine (f_is_if T).ok sc_is_if (fun vs H Q E h => ?_) (fun cdv A outer s H vs Q E hr h => ⟨_, PSs.nox (pss_cons (ps_if (PW.pt (pw_or (pt_not (pt_val (pe_callB (k_isi K) (by rfl) (free_isinstance T) (by decide +kernel) (pa_cons (pv 0) (pa_cons (pe_bltn (v := .ty "tuple") (by rfl) (free_tuple T) (by decide +kernel) rfl) pa_nil))))) (pw_or (pt_cmpR op_ne (pe_callB (k_len K) (by rfl) (free_len T) (by decide +kernel) (pa_cons (pv 0) pa_nil)) pe_int (nomark _)) (pw_or (pt_not (pt_val (pe_callB (k_isi K) (by rfl) (free_isinstance T) (by decide +kernel) (pa_cons (pe_ix (k_ixT K) (pv 0) pe_int (fun _ _ => rfl)) (pa_cons (pe_bltn (v := .ty "str") (by rfl) (free_str T) (by decide +kernel) rfl) pa_nil))))) (pw_or1 (pt_cmpR op_ne (pe_ix (k_ixT K) (pv 0) pe_int (fun _ _ => rfl)) pe_str (nomark _))))))) (pss_one (ps_ret pe_bl)) pss_nil)
  (pss_one (ps_ret (pe_and (pe_callB (k_isi K) (by rfl) (free_isinstance T) (by decide +kernel) (pa_cons (pe_ix (k_ixT K) (pv 0) pe_int (fun _ _ => rfl)) (pa_cons (pe_bltn (v := .ty "tuple") (by rfl) (free_tuple T) (by decide +kernel) rfl) pa_nil))) (pe_one (pe_callB (k_isi K) (by rfl) (free_isinstance T) (by decide +kernel) (pa_cons (pe_ix (k_ixT K) (pv 0) pe_int (fun _ _ => rfl)) (pa_cons (pe_bltn (v := .ty "tuple") (by rfl) (free_tuple T) (by decide +kernel) rfl) pa_nil)))))))), ?_⟩)
  · obtain ⟨v, p, rfl, _⟩ := h; rfl
  · obtain ⟨v, p, rfl, hv, q⟩ := h
    obtain ⟨a, y, m, rfl, aT, _, _⟩ := st_den hv
    refine ⟨_, rfl, use_isi (ty_tup aT) (by decide +kernel) ⟨true, rfl, iteF ?_⟩⟩
    refine ⟨_, rfl, a, _, rfl, .inr aT, rfl, _, rfl, lastB _ (fun l => absurd l (by simp)) (fun _ => ?_)⟩
    refine ⟨_, rfl, a, _, _, _, rfl, rfl, aT, rfl, use_isi (.base (.str _)) (by decide +kernel) ⟨true, rfl, iteF ?_⟩⟩
    refine ⟨_, rfl, a, _, _, _, rfl, rfl, aT, rfl, rfl, true, ?_, iteT q⟩
    cases p.op <;> rfl
theorem sc_items_in : FnScope ["body", "item"] ["body"] (defScope (top 44)) := ⟨rfl, rfl, rfl, by decide +kernel, rfl, by decide +kernel, by decide +kernel⟩
theorem sN_ones (n : Nat) : sN n (fun _ => 1) = n := by
  induction n with
  | zero => rfl
  | succ n ih => show sN n _ + 1 = _; rw [ih]; omega
def sp_items_in (K : PySem.W.Frag) : Sp := fun vs H Q _ => ∃ (v : V) (b : List Stm), vs = [v] ∧ Den K H (bodyD b) v ∧ b.length ≤ 1000 ∧ ∀ H', Same H H' → Q (.int b.length) H'
theorem ok_items_in (T : Tx K mg) : FnOk P w K mg base CX0 2 347 (fdA K 347) ["body"] (sp_items_in K) := by
  refine (f_items_in T).ok sc_items_in (fun vs H Q E h => ?_) (fun cdv A outer s H vs Q E hr h => ⟨_, PSs.nox (pss_one (ps_ret (pe_callB (k_sum K rfl) (by rfl) (free_sum T) (by decide +kernel) (pa_cons (pe_lc (own := [("item", 1)]) rfl sc_items_in.nd (k_pit K (pv 0)) (blkOk_by (N := ["body", "item"]) (sc := (defScope (top 44))) (by decide +kernel)) (fun _ _ _ _ _ => (pg_name (i := 1) sc_items_in.nd rfl (.inl rfl) (hf := (.inr rfl)))) (fun _ _ _ _ _ => pts_nil) (fun _ _ _ _ _ => (pe_op op_add pe_int (pe_ifExp (pt_val (pe_call (ok_is_if T) (hr.mono (by decide)) (by rfl) (g_is_if T) (f_is_if T).kp (b_is_if T) .nil pass0 (pa_cons (pv 1) pa_nil))) pe_never pe_int)))) pa_nil)))), ?_⟩)
  · obtain ⟨v, b, rfl, _⟩ := h; rfl
  · obtain ⟨v, b, rfl, ⟨a, us, rfl, aT, aL⟩, hz, q⟩ := h
    have ln := aL.length
    rw [List.length_map] at ln
    refine ⟨_, rfl, a, rfl, ⟨us, aT⟩, fun D nD => lc_fl (K := K) nD (n := b.length) (G := fun Hh => SqT K Hh a us) (Y := YAt us) (by rw [← ln]; exact walk_tup) (fun _ => 1) (by omega) (fun Hh s => Same.ext s _ _ aT) ?_ ?_⟩
    · rintro i x H1 H2 Q' hi s1 ⟨rfl, ex⟩ q'
      obtain ⟨p, ep, dp⟩ := map_at1 (DenL.mono (Same.ext s1) aL) ex
      exact ⟨rfl, _, rfl, x, p, rfl, dp, false, rfl, iteF ⟨_, _, rfl, rfl, q' _ (Same.refl _)⟩⟩
    · intro H1 s1 eD
      refine ⟨D, FI b.length (fun _ => 1), rfl, SqL.of eD, ?_⟩
      rw [sum_fi, sN_ones]
      exact q _ s1
/-! has_right_side, is_giving -/
theorem sc_has_right_side : FnScope ["known", "thing"] ["known", "thing"] (defScope (top 45)) := ⟨rfl, rfl, rfl, by decide +kernel, rfl, by decide +kernel, by decide +kernel⟩
def okRight (l : NL) (p : Stm) : Prop := (p.op = .times → -12 ≤ p.fac ∧ p.fac ≤ 12) ∧ (p.op ≠ .times → (getL l p.one).isSome = true) ∧ (getL l p.other).isSome = true
def sp_has_right_side (K : PySem.W.Frag) : Sp := fun vs H Q _ => ∃ (d : Addr) (l : NL) (v : V) (p : Stm), vs = [.ref d, v] ∧ DD K H d l ∧ Den K H p.d v ∧ okRight l p ∧ Q (.bl true) H
theorem mid_str {H : Hp} {p : Stm} {m : V} (h : Den K H p.mid m) (e : p.op ≠ .times) : m = .str p.one := by
  unfold Stm.mid at h
  rw [if_neg e] at h
  exact h
theorem mid_int {H : Hp} {p : Stm} {m : V} (h : Den K H p.mid m) (e : p.op = .times) : m = .int p.fac := by
  unfold Stm.mid at h
  rw [if_pos e] at h
  exact h
theorem ok_has_right_side (T : Tx K mg) : FnOk P w K mg base CX0 3 354 (fdA K 354) ["known", "thing"] (sp_has_right_side K) := by
  refine (f_has_right_side T).ok sc_has_right_side (fun vs H Q E h => ?_) (fun cdv A outer s H vs Q E hr h => ⟨_, PSs.nox (pss_cons (ps_if (pt_cmpR (k_inS K) (pe_ix (k_ixT K) (pv 1) pe_int (fun _ _ => rfl)) (pe_glob (v := .ref _) (by rfl) (g_PAIRED T) rfl) (by rfl)) (pss_one (ps_ret (pe_and (pe_call (ok_has_name T) (hr.mono (by decide)) (by rfl) (g_has_name T) (f_has_name T).kp (b_has_name T) .nil pass0 (pa_cons (pv 0) (pa_cons (pe_ix (k_ixT K) (pv 1) pe_int (fun _ _ => rfl)) pa_nil))) (pe_one (pe_call (ok_has_name T) (hr.mono (by decide)) (by rfl) (g_has_name T) (f_has_name T).kp (b_has_name T) .nil pass0 (pa_cons (pv 0) (pa_cons (pe_ix (k_ixT K) (pv 1) pe_int (fun _ _ => rfl)) pa_nil))))))) pss_nil)
  (pss_one (ps_ret (pe_and (pe_cmpR op_eq (pe_ix (k_ixT K) (pv 1) pe_int (fun _ _ => rfl)) pe_str (nomark _)) (pe_and (pe_call (ok_is_between T) (hr.mono (by decide)) (by rfl) (g_is_between T) (f_is_between T).kp (b_is_between T) .nil pass0 (pa_cons (pe_ix (k_ixT K) (pv 1) pe_int (fun _ _ => rfl)) (pa_cons (pe_un un_neg (pe_glob (v := .int _) (by rfl) (int_MOST_FACTOR T).choose_spec ⟨_, rfl⟩)) (pa_cons (pe_glob (v := .int _) (by rfl) (int_MOST_FACTOR T).choose_spec ⟨_, rfl⟩) pa_nil)))) (pe_one (pe_call (ok_has_name T) (hr.mono (by decide)) (by rfl) (g_has_name T) (f_has_name T).kp (b_has_name T) .nil pass0 (pa_cons (pv 0) (pa_cons (pe_ix (k_ixT K) (pv 1) pe_int (fun _ _ => rfl)) pa_nil))))))))), ?_⟩)
  · obtain ⟨d, l, v, p, rfl, _⟩ := h; rfl
  · obtain ⟨d, l, v, p, rfl, hd, hv, hr2, q⟩ := h
    obtain ⟨a, y, m, rfl, aT, _, hm⟩ := st_den hv
    refine ⟨_, rfl, a, _, _, _, rfl, rfl, aT, rfl, _, _, rfl, .inr (T.tup_PAIRED _), rfl, by decide +kernel, _, rfl, ?_⟩
    have e1 : inV (.str p.op.str) ((["plus", "minus", "least", "greatest"] : List Str).map V.str) = decide (p.op ≠ .times) := by
      rw [inV_strs]
      cases p.op <;> rfl
    by_cases e : p.op = .times
    · refine lastB _ (fun l' => ?_) (fun _ => ?_)
      · have : inV (.str p.op.str) ((["plus", "minus", "least", "greatest"] : List Str).map V.str) = true := l'
        rw [e1] at this
        exact absurd e (of_decide_eq_true this)
      · obtain rfl := mid_int hm e
        have hf := hr2.1 e
        refine ⟨_, rfl, a, _, _, _, rfl, rfl, aT, rfl, rfl, true, by rw [e]; rfl, iteT ?_⟩
        refine ⟨_, rfl, a, _, _, _, rfl, rfl, aT, rfl, _, rfl, _, _, _, rfl, ?_⟩
        rw [decide_eq_true (show (-12 : Int) ≤ p.fac ∧ p.fac ≤ 12 from hf)]
        refine ⟨true, rfl, iteT ?_⟩
        refine ⟨_, rfl, _, rfl, a, _, _, _, rfl, rfl, aT, rfl, d, l, p.other, rfl, hd, ?_⟩
        rw [hr2.2.2]; exact q
    · refine lastB _ (fun _ => ?_) (fun l' => ?_)
      · obtain rfl := mid_str hm e
        refine ⟨_, rfl, _, rfl, a, _, _, _, rfl, rfl, aT, rfl, d, l, p.one, rfl, hd, ?_⟩
        rw [hr2.2.1 e]
        refine ⟨true, rfl, iteT ?_⟩
        refine ⟨_, rfl, _, rfl, a, _, _, _, rfl, rfl, aT, rfl, d, l, p.other, rfl, hd, ?_⟩
        rw [hr2.2.2]; exact q
      · have : inV (.str p.op.str) ((["plus", "minus", "least", "greatest"] : List Str).map V.str) = false := l'
        rw [e1] at this
        exact absurd e (of_decide_eq_false this)
theorem sc_is_giving : FnScope ["known", "thing"] ["known", "thing"] (defScope (top 46)) := ⟨rfl, rfl, rfl, by decide +kernel, rfl, by decide +kernel, by decide +kernel⟩
def sp_is_giving (K : PySem.W.Frag) : Sp := fun vs H Q _ => ∃ (d : Addr) (l : NL) (v : V) (p : Stm), vs = [.ref d, v] ∧ DD K H d l ∧ Den K H p.d v ∧ okName p.name = true ∧ p.kd.ok = true ∧ getL l p.name = none ∧ okRight l p ∧ ∀ H', Same H H' → Q (.bl true) H'
theorem ok_is_giving (T : Tx K mg) : FnOk P w K mg base CX0 4 361 (fdA K 361) ["known", "thing"] (sp_is_giving K) := by
  refine (f_is_giving T).ok sc_is_giving (fun vs H Q E h => ?_) (fun cdv A outer s H vs Q E hr h => ⟨_, PSs.nox (pss_cons (ps_if (PW.pt (pw_or (pt_not (pt_val (pe_callB (k_isi K) (by rfl) (free_isinstance T) (by decide +kernel) (pa_cons (pv 1) (pa_cons (pe_bltn (v := .ty "tuple") (by rfl) (free_tuple T) (by decide +kernel) rfl) pa_nil))))) (pw_or (pt_cmpR op_ne (pe_callB (k_len K) (by rfl) (free_len T) (by decide +kernel) (pa_cons (pv 1) pa_nil)) pe_int (nomark _)) (pw_or1 (pt_not (pt_val (pe_callB (k_isi K) (by rfl) (free_isinstance T) (by decide +kernel) (pa_cons (pe_ix (k_ixT K) (pv 1) pe_int (fun _ _ => rfl)) (pa_cons (pe_bltn (v := .ty "str") (by rfl) (free_str T) (by decide +kernel) rfl) pa_nil))))))))) (pss_one (ps_ret pe_bl)) pss_nil)
  (pss_cons (ps_if (PW.pt (pw_or (pt_not (pt_val (pe_call (ok_is_name_value T) (hr.mono (by decide)) (by rfl) (g_is_name_value T) (f_is_name_value T).kp (b_is_name_value T) .nil pass0 (pa_cons (pe_ix (k_ixT K) (pv 1) pe_int (fun _ _ => rfl)) pa_nil)))) (pw_or (pt_cmp (pc_din (hu_of hr) (pe_ix (k_ixT K) (pv 1) pe_int (fun _ _ => rfl)) (pv 0))) (pw_or1 (pt_not (pt_val (pe_call (ok_is_kind_value T) (hr.mono (by decide)) (by rfl) (g_is_kind_value T) (f_is_kind_value T).kp (b_is_kind_value T) .nil pass0 (pa_cons (pe_ix (k_ixT K) (pv 1) pe_int (fun _ _ => rfl)) pa_nil)))))))) (pss_one (ps_ret pe_bl)) pss_nil)
  (pss_one (ps_ret (pe_call (ok_has_right_side T) (hr.mono (by decide)) (by rfl) (g_has_right_side T) (f_has_right_side T).kp (b_has_right_side T) .nil pass0 (pa_cons (pv 0) (pa_cons (pv 1) pa_nil))))))), ?_⟩)
  · obtain ⟨d, l, v, p, rfl, _⟩ := h; rfl
  · obtain ⟨d, l, v, p, rfl, hd, hv, ok1, ok2, gn, hr2, q⟩ := h
    obtain ⟨a, y, m, rfl, aT, hy, hm⟩ := st_den hv
    refine ⟨_, rfl, use_isi (ty_tup aT) (by decide +kernel) ⟨true, rfl, iteF ?_⟩⟩
    refine ⟨_, rfl, a, _, rfl, .inr aT, rfl, _, rfl, lastB _ (fun l => absurd l (by simp)) (fun _ => ?_)⟩
    refine ⟨_, rfl, a, _, _, _, rfl, rfl, aT, rfl, use_isi (.base (.str _)) (by decide +kernel) ⟨true, rfl, iteF ?_⟩⟩
    refine ⟨_, rfl, a, _, _, _, rfl, rfl, aT, rfl, p.name, rfl, ok1, fun H1 s1 => ⟨true, rfl, iteF ?_⟩⟩
    have hd1 := hd.same s1
    have aT1 := Same.ext s1 _ _ aT
    refine ⟨_, rfl, a, _, _, _, rfl, rfl, aT1, rfl, _, rfl, d, none, rfl, hd1.no gn, false, rfl, iteF ?_⟩
    refine ⟨_, rfl, a, _, _, _, rfl, rfl, aT1, rfl, y, p.kd, rfl, hy.mono (Same.ext s1), ok2, fun H2 s2 => ⟨true, rfl, iteF ?_⟩⟩
    exact ⟨_, rfl, _, rfl, d, l, _, p, rfl, hd1.same s2, hv.mono (Same.ext (s1.trans s2)), hr2, q _ (s1.trans s2)⟩
end
end K28
end
section
set_option Elab.async false
set_option linter.all false
set_option maxRecDepth 100000
set_option maxHeartbeats 4000000
set_option exponentiation.threshold 2000
namespace K28
open PySem L2
/-- the names known behind the first statements -/
def stL (b : List Stm) : NL := b.map fun s => (s.name, s.kd.d)
structure StOk (l : NL) (s : Stm) : Prop where
  nm : okName s.name = true
  kd : s.kd.ok = true
  new : getL l s.name = none
  right : okRight l s
/-- each statement stands well behind those ahead of it -/
def BodyOk (l : NL) (b : List Stm) : Prop := ∀ i s, b[i]? = some s → StOk (l ++ stL (b.take i)) s
theorem stL_snoc {l : NL} {b : List Stm} {i : Nat} {s : Stm} (e : b[i]? = some s) (ok : StOk (l ++ stL (b.take i)) s) : putL (l ++ stL (b.take i)) s.name s.kd.d = l ++ stL (b.take (i + 1)) := by
  rw [putL_new ok.new, List.take_add_one, e, List.append_assoc]
  unfold stL
  rw [List.map_append]; rfl
theorem putL_len {l : NL} {x : Str} {d : Dt} : (putL l x d).length ≤ l.length + 1 := by
  unfold putL
  split <;> simp
section
variable {P : Program} {w : World} {K : PySem.W.Frag} {mg : Str → Option Value} {base : Heap}
theorem sc_first_wrong : FnScope ["body", "known", "number", "needed", "item", "own", "name", "wrong", "near", "far"] ["body", "known", "number", "needed"] (defScope (top 47)) := ⟨rfl, rfl, rfl, by decide +kernel, rfl, by decide +kernel, by decide +kernel⟩
def sp_first_wrong (K : PySem.W.Frag) : Sp := fun vs H Q _ => ∃ (v : V) (d e : Addr) (n : Int) (b : List Stm) (l : NL), vs = [v, .ref d, .int n, .ref e] ∧ Den K H (bodyD b) v ∧ DD K H d l ∧ DD K H e [] ∧ BodyOk l b ∧ b.length ≤ 500 ∧ l.length ≤ 100 ∧
  ∀ t y H', Same H H' → SqT K H' t [.non, y] → Q (.ref t) H'
theorem ok_first_wrong (T : Tx K mg) : FnOk P w K mg base CX0 5 368 (fdA K 368) ["body", "known", "number", "needed"] (sp_first_wrong K) := by
  refine (f_first_wrong T).ok sc_first_wrong (fun vs H Q E h => ?_) (fun cdv A outer s H vs Q E hr h => ⟨_, PSs.nox (pss_cons (ps_par (i := 1) (j := 5) rfl sc_first_wrong.nd rfl rfl (by decide) rfl rfl (pa_cons (pe_callTy call_dictD (by rfl) (free_dict T) (by decide +kernel) (pa_cons (pv 1) pa_nil)) (pa_cons pe_dnewK pa_nil)) (by rfl))
  (pss_cons (ps_for PassesOwn.never rfl (k_pit K (pv 0)) (pg_name (i := 4) sc_first_wrong.nd rfl (.inl rfl) (hf := (.inl rfl)))
    (pss_cons (ps_if (pt_val (pe_call (ok_is_if T) (hr.mono (by decide)) (by rfl) (g_is_if T) (f_is_if T).kp (b_is_if T) .nil pass0 (pa_cons (pv 4) pa_nil))) pss_never (pss_cons (ps_if (PW.pt (pw_or (pt_not (pt_val (pe_call (ok_is_giving T) (hr.mono (by decide)) (by rfl) (g_is_giving T) (f_is_giving T).kp (b_is_giving T) .nil pass0 (pa_cons (pv 1) (pa_cons (pv 4) pa_nil))))) (pw_or1 (pt_cmpR (k_ne K hr.units) (pe_dget2 (hu_of hr) (pv 3) (pe_ix (k_ixT K) (pv 4) pe_int (fun _ _ => rfl)) (pe_ix (k_ixT K) (pv 4) pe_int (fun _ _ => rfl)) ⟨rfl, rfl, rfl, rfl⟩) (pe_ix (k_ixT K) (pv 4) pe_int (fun _ _ => rfl)) (nomark _))))) (pss_one (ps_ret (pe_tup (pa_cons (pv 2) (pa_cons pe_non pa_nil))))) pss_nil)
  (pss_cons (ps_dput (hu_of hr) (pv 1) (pe_ix (k_ixT K) (pv 4) pe_int (fun _ _ => rfl)) (pe_ix (k_ixT K) (pv 4) pe_int (fun _ _ => rfl)) rfl)
  (pss_one (ps_dput (hu_of hr) (pv 5) (pe_ix (k_ixT K) (pv 4) pe_int (fun _ _ => rfl)) (pe_ix (k_ixT K) (pv 4) pe_int (fun _ _ => rfl)) rfl)))))
  (pss_one (ps_aug (i := 2) sc_first_wrong.nd rfl (.inl rfl) (pe_call (ok_items_in T) (hr.mono (by decide)) (by rfl) (g_items_in T) (f_items_in T).kp (b_items_in T) .nil pass0 (pa_cons (pe_tup (pa_cons (pv 4) pa_nil)) pa_nil)) ip_add))))
  (pss_one (ps_ret (pe_tup (pa_cons pe_non (pa_cons (pv 5) pa_nil))))))), ?_⟩)
  · obtain ⟨v, d, e, n, b, l, rfl, _⟩ := h; rfl
  · obtain ⟨v, d, e, n, b, l, rfl, ⟨a, us, rfl, aT, aL⟩, hd, he, ok, hz, hl, q⟩ := h
    have ln := aL.length
    rw [List.length_map] at ln
    obtain ⟨k0, ek0, pk0⟩ := id hd
    refine ⟨_, rfl, d, k0, rfl, .inl ek0, fun d1 nd1 d2 nd2 => ⟨_, _, rfl, ?_⟩⟩
    have s2 : Same H (upd (upd H d1 (.dK k0)) d2 (.dK [])) := (same_new nd1).trans (same_new nd2)
    have ne12 : d1 ≠ d2 := ne_of_none upd_same nd2
    have h1 : DD K (upd (upd H d1 (.dK k0)) d2 (.dK [])) d1 l := (DD.copy pk0 nd1).same (same_new nd2)
    have h2 : DD K (upd (upd H d1 (.dK k0)) d2 (.dK [])) d2 [] := DD.new
    have nd2' : H d2 = none := noneBack nd2 (same_new nd1)
    generalize upd (upd H d1 (.dK k0)) d2 (.dK []) = H2 at s2 h1 h2 ⊢
    refine ⟨_, rfl, a, rfl, ⟨us, Same.ext s2 _ _ aT⟩, ?_⟩
    refine for_it (walk_tup (K := K) (a := a) (xs := us)) (fun i σ H' => (∃ n' o4 o6 o7 o8 o9, σ = [some (.ref a), some (.ref d1), some (.int n'), some (.ref e), o4, some (.ref d2), o6, o7, o8, o9]) ∧ Same H H' ∧ DD K H' d1 (l ++ stL (b.take i)) ∧ ∃ lo, DD K H' d2 lo ∧ lo.length ≤ i)
      ⟨⟨_, _, _, _, _, _, rfl⟩, s2, by rw [show stL (b.take 0) = [] from rfl, List.append_nil]; exact h1, [], h2, Nat.le_refl _⟩ (fun i σ H' _ h => Same.ext h.2.1 _ _ aT) ?_ ?_
    · rintro i x σ H3 H4 hi ⟨⟨n', o4, o6, o7, o8, o9, rfl⟩, s3, g1, lo, g2, hlo⟩ ⟨rfl, ex⟩
      obtain ⟨p, ep, dp⟩ := map_at1 (DenL.mono (Same.ext s3) aL) ex
      have okp := ok i p ep
      have hi2 : i < b.length := (List.getElem?_eq_some_iff.mp ep).1
      obtain ⟨ap, y, m, rfl, pT, hy, hm⟩ := st_den dp
      refine ⟨_, rfl, _, p, rfl, dp, false, rfl, iteF ?_⟩
      refine ⟨_, rfl, _, rfl, d1, _, _, p, rfl, g1, dp, okp.nm, okp.kd, okp.new, okp.right, fun H5 s5 => ⟨true, rfl, iteF ?_⟩⟩
      have pT5 := Same.ext s5 _ _ pT
      have he5 := he.same (s3.trans s5)
      refine ⟨_, rfl, e, rfl, ?_, _, rfl, ap, _, _, _, rfl, rfl, pT5, rfl, _, rfl, ap, _, _, _, rfl, rfl, pT5, rfl, none, he5.no rfl, ?_⟩
      · obtain ⟨ke, eke, _⟩ := he5
        exact .inl ⟨ke, .inl eke⟩
      refine ⟨_, rfl, ap, _, _, _, rfl, rfl, pT5, rfl, use_neF (hy.mono (Same.ext s5)) (hy.mono (Same.ext s5)) (kd_fit _) (kd_fit _) (fun _ => ⟨false, rfl, iteF ?_⟩) (fun z => absurd rfl z)⟩
      obtain ⟨kv1, hput1, hd1⟩ := (g1.same s5).put (x := p.name) (d := p.kd.d) (v := y) (hy.mono (Same.ext s5)) (by simp [stL]; omega)
      refine ⟨_, rfl, ap, _, _, _, rfl, rfl, pT5, rfl, _, rfl, _, rfl, ap, _, _, _, rfl, rfl, pT5, rfl, d1, _, rfl, hput1, ?_⟩
      have x6 := DD.ext (kvs := kv1) (g1.same s5)
      have s6 : Same H (upd H5 d1 (.dK kv1)) := same_upd (s3.trans s5) nd1
      have g2' : DD K (upd H5 d1 (.dK kv1)) d2 lo := (g2.same s5).mono x6 (upd_ne (fun z => ne12 z.symm))
      have pT6 := x6 _ _ pT5
      have hy6 := (hy.mono (Same.ext s5)).mono x6
      rw [stL_snoc ep okp] at hd1
      obtain ⟨kv2, hput2, hd2⟩ := g2'.put (x := p.name) (d := p.kd.d) (v := y) hy6 (by omega)
      refine ⟨_, rfl, ap, _, _, _, rfl, rfl, pT6, rfl, _, rfl, _, rfl, ap, _, _, _, rfl, rfl, pT6, rfl, d2, _, rfl, hput2, ?_⟩
      have x7 := DD.ext (kvs := kv2) g2'
      have s7 : Same H (upd (upd H5 d1 (.dK kv1)) d2 (.dK kv2)) := same_upd s6 nd2'
      have g1' := hd1.mono x7 (upd_ne ne12)
      have dp7 := dp.mono ((Same.ext s5).trans (x6.trans x7))
      generalize upd (upd H5 d1 (.dK kv1)) d2 (.dK kv2) = H7 at s7 g1' hd2 dp7 ⊢
      refine ⟨_, rfl, _, rfl, szl (show 1 ≤ 1000000 by decide), fun t nt => ?_⟩
      refine ⟨.ref t, [p], rfl, den_new nt (denL_one dp7), (show 1 ≤ 1000 by decide), fun H8 s8 => ?_⟩
      have s78 := (same_new (o := .tup [.ref ap]) nt).trans s8
      refine ⟨_, _, rfl, rfl, ⟨_, _, _, _, _, _, rfl⟩, s7.trans s78, g1'.same s78, _, hd2.same s78, ?_⟩
      have := putL_len (l := lo) (x := p.name) (d := p.kd.d)
      omega
    · rintro σ H3 ⟨⟨n', o4, o6, o7, o8, o9, rfl⟩, s3, g1, lo, g2, hlo⟩
      refine ⟨_, rfl, szl (show 2 ≤ 1000000 by decide), fun t nt => ?_⟩
      exact q t _ _ (s3.trans (same_new nt)) (.inl (.inl upd_same))
theorem sc_places_in : FnScope ["body", "known", "path", "found", "at", "statement", "name", "near", "near_known", "far", "far_known"] ["body", "known", "path"] (defScope (top 48)) := ⟨rfl, rfl, rfl, by decide +kernel, rfl, by decide +kernel, by decide +kernel⟩
def sp_places_in (K : PySem.W.Frag) : Sp := fun vs H Q _ => ∃ (v z : V) (d : Addr) (b : List Stm) (l : NL), vs = [v, .ref d, z] ∧ Den K H (bodyD b) v ∧ DD K H d l ∧ BodyOk l b ∧ b.length ≤ 500 ∧ l.length ≤ 100 ∧
  ∀ t y d' H', Same H H' → SqT K H' t [y, .ref d'] → DD K H' d' (l ++ stL b) → Q (.ref t) H'
theorem ok_places_in (T : Tx K mg) : FnOk P w K mg base CX0 1 375 (fdA K 375) ["body", "known", "path"] (sp_places_in K) := by
  refine (f_places_in T).ok sc_places_in (fun vs H Q E h => ?_) (fun cdv A outer s H vs Q E hr h => ⟨_, PSs.nox (pss_cons (ps_par (i := 3) (j := 1) rfl sc_places_in.nd rfl rfl (by decide) rfl rfl (pa_cons (pe_lst pa_nil) (pa_cons (pe_callTy call_dictD (by rfl) (free_dict T) (by decide +kernel) (pa_cons (pv 1) pa_nil)) pa_nil)) (by rfl))
  (pss_cons (ps_for PassesOwn.never rfl (k_enum K false (by rfl) (free_enumerate T) (pa_cons (pv 0) pa_nil)) (k_tgt K 2 rfl (pgs_cons (pg_name (i := 4) sc_places_in.nd rfl (.inl rfl) (hf := (.inl rfl))) (pgs_cons (pg_name (i := 5) sc_places_in.nd rfl (.inl rfl) (hf := (.inl rfl))) pgs_nil)))
    (pss_cons (ps_expr (pe_bm PySem.F.plainAttrs_list PySem.F.slot_list_append PySem.F.type_list_append mt_append (pv 3) (pa_cons (pe_tup (pa_cons (pv 2) (pa_cons (pv 4) (pa_cons (pv 5) (pa_cons (pe_callTy call_dictD (by rfl) (free_dict T) (by decide +kernel) (pa_cons (pv 1) pa_nil)) pa_nil))))) pa_nil)))
  (pss_one (ps_if (pt_cmpR op_eq (pe_ix (k_ixT K) (pv 5) pe_int (fun _ _ => rfl)) pe_str (nomark _)) pss_never (pss_one (ps_dput (hu_of hr) (pv 1) (pe_ix (k_ixT K) (pv 5) pe_int (fun _ _ => rfl)) (pe_ix (k_ixT K) (pv 5) pe_int (fun _ _ => rfl)) rfl))))))
  (pss_one (ps_ret (pe_tup (pa_cons (pv 3) (pa_cons (pv 1) pa_nil))))))), ?_⟩)
  · obtain ⟨v, z, d, b, l, rfl, _⟩ := h; rfl
  · obtain ⟨v, z, d, b, l, rfl, ⟨a, us, rfl, aT, aL⟩, hd, ok, hz, hl, q⟩ := h
    have ln := aL.length
    rw [List.length_map] at ln
    obtain ⟨k0, ek0, pk0⟩ := id hd
    refine ⟨szl (show 0 ≤ 1000000 by decide), fun f nf => ⟨_, rfl, d, k0, rfl, .inl ((same_new nf) _ _ ek0), fun d1 nd1 => ⟨_, _, rfl, ?_⟩⟩⟩
    have s2 : Same H (upd (upd H f (.lst [])) d1 (.dK k0)) := (same_new nf).trans (same_new nd1)
    have nef : f ≠ d1 := ne_of_none upd_same nd1
    have nd1' : H d1 = none := noneBack nd1 (same_new nf)
    have h1 : DD K (upd (upd H f (.lst [])) d1 (.dK k0)) d1 l := DD.copy (DR.mono (Same.ext (same_new nf)) pk0) nd1
    have hf2 : upd (upd H f (.lst [])) d1 (.dK k0) f = some (.lst []) := by rw [upd_ne nef]; exact upd_same
    generalize upd (upd H f (.lst [])) d1 (.dK k0) = H2 at s2 h1 hf2 ⊢
    refine ⟨_, rfl, a, us, rfl, Same.ext s2 _ _ aT, ?_⟩
    refine for_it (walk_enumB (k := false) (K := K) (a := a) (xs := us)) (fun i σ H' => (∃ o4 o5 o6 o7 o8 o9 o10, σ = [some (.ref a), some (.ref d1), some z, some (.ref f), o4, o5, o6, o7, o8, o9, o10]) ∧ Same H H' ∧ DD K H' d1 (l ++ stL (b.take i)) ∧ ∃ xs, H' f = some (.lst xs) ∧ xs.length = i)
      ⟨⟨_, _, _, _, _, _, _, rfl⟩, s2, by rw [show stL (b.take 0) = [] from rfl, List.append_nil]; exact h1, [], hf2, rfl⟩ (fun i σ H' _ h => Same.ext h.2.1 _ _ aT) ?_ ?_
    · rintro i x σ H3 H4 hi ⟨⟨o4, o5, o6, o7, o8, o9, o10, rfl⟩, s3, g1, xs, gf, lx⟩ ⟨A', e1, e2, rfl, nA, rfl, ee, ef⟩
      cases (Option.some.inj ee)
      have ef2 : us[i]? = some e2 := ef
      have s4 : Same H (upd H3 A' (.tup [.int (i : Int), e2])) := s3.trans (same_new nA)
      have g1b := g1.same (same_new (o := .tup [.int (i : Int), e2]) nA)
      have gfb := (same_new (o := .tup [.int (i : Int), e2]) nA) _ _ gf
      have tA : SqT K (upd H3 A' (.tup [.int (i : Int), e2])) A' [.int (i : Int), e2] := .inl (.inl upd_same)
      generalize upd H3 A' (.tup [.int (i : Int), e2]) = H4 at s4 g1b gfb tA ⊢
      obtain ⟨p, ep, dp⟩ := map_at1 (DenL.mono (Same.ext s4) aL) ef2
      have okp := ok i p ep
      have hi2 : i < b.length := (List.getElem?_eq_some_iff.mp ep).1
      obtain ⟨ap, y, m, rfl, pT, hy, hm⟩ := st_den dp
      refine g_pair tA ?_
      obtain ⟨k1, ek1, pk1⟩ := id g1b
      refine ⟨_, rfl, .inl ⟨rfl, _, SqL.of gfb⟩, _, rfl, _, rfl, _, rfl, _, rfl, d1, k1, rfl, .inl ek1, fun c nc => ⟨szl (show 4 ≤ 1000000 by decide), fun t nt => ?_⟩⟩
      have s5 := (same_new (o := .dK k1) nc).trans (same_new (o := .tup [z, .int (i : Int), .ref ap, .ref c]) nt)
      have gf5 := s5 _ _ gfb
      have g15 := g1b.same s5
      have dp5 := dp.mono (Same.ext s5)
      refine ⟨f, xs, _, rfl, rfl, gf5, szlt (by omega), ?_⟩
      have x6 : ExT K (upd (upd H4 c (.dK k1)) t (.tup [z, .int (i : Int), .ref ap, .ref c])) (upd (upd (upd H4 c (.dK k1)) t (.tup [z, .int (i : Int), .ref ap, .ref c])) f (.lst (xs ++ [.ref t]))) := ext_upd gf5 rfl
      have s6 : Same H (upd (upd (upd H4 c (.dK k1)) t (.tup [z, .int (i : Int), .ref ap, .ref c])) f (.lst (xs ++ [.ref t]))) := same_upd (s4.trans s5) nf
      have g16 := g15.mono x6 (upd_ne (fun q => nef q.symm))
      have pT6 := x6 _ _ (Same.ext s5 _ _ pT)
      have hy6 := (hy.mono (Same.ext s5)).mono x6
      have gf6 : upd (upd (upd H4 c (.dK k1)) t (.tup [z, .int (i : Int), .ref ap, .ref c])) f (.lst (xs ++ [.ref t])) f = some (.lst (xs ++ [.ref t])) := upd_same
      generalize upd (upd (upd H4 c (.dK k1)) t (.tup [z, .int (i : Int), .ref ap, .ref c])) f (.lst (xs ++ [.ref t])) = H6 at s6 g16 pT6 hy6 gf6 ⊢
      refine ⟨_, rfl, ap, _, _, _, rfl, rfl, pT6, rfl, rfl, false, ?_, iteF ?_⟩
      · cases p.op <;> rfl
      obtain ⟨kv1, hput1, hd1⟩ := g16.put (x := p.name) (d := p.kd.d) (v := y) hy6 (by simp [stL]; omega)
      rw [stL_snoc ep okp] at hd1
      refine ⟨_, rfl, ap, _, _, _, rfl, rfl, pT6, rfl, _, rfl, _, rfl, ap, _, _, _, rfl, rfl, pT6, rfl, d1, _, rfl, hput1, ⟨_, _, _, _, _, _, _, rfl⟩, same_upd s6 nd1', hd1, _, (by rw [upd_ne nef]; exact gf6), by rw [List.length_append, lx]; rfl⟩
    · rintro σ H3 ⟨⟨o4, o5, o6, o7, o8, o9, o10, rfl⟩, s3, g1, xs, gf, lx⟩
      rw [ln, List.take_length] at g1
      refine ⟨_, rfl, _, rfl, szl (show 2 ≤ 1000000 by decide), fun t nt => ?_⟩
      exact q t _ d1 _ (s3.trans (same_new nt)) (.inl (.inl upd_same)) (g1.same (same_new nt))
end
end K28
end
section
set_option Elab.async false
set_option linter.all false
set_option maxRecDepth 100000
set_option maxHeartbeats 4000000
set_option exponentiation.threshold 2000
namespace K28
open PySem L2
structure PgOk (p : Pg) : Prop where
  ins : InsOk p.ins
  facts : FactsOk p.ins p.facts
  body : BodyOk (insL p.ins) p.body
  blen : p.body.length ≤ 24
  o1 : 1 ≤ p.outs.length
  o2 : p.outs.length ≤ 4
  o3 : ∀ x ∈ p.outs, (getL (insL p.ins ++ stL p.body) x).isSome = true
structure PgParts (K : PySem.W.Frag) (H : Hp) (p : Pg) (a : Addr) (x1 x2 x3 x4 : V) : Prop where
  tup : SqT K H a [x1, x2, x3, x4]
  ins : InsAt K H p.ins x1
  facts : Den K H (.t (p.facts.map ftD)) x2
  body : Den K H (bodyD p.body) x3
  outs : Den K H (.t (p.outs.map Dt.s)) x4
def PgAt (K : PySem.W.Frag) (H : Hp) (p : Pg) (v : V) : Prop := ∃ a x1 x2 x3 x4, v = .ref a ∧ PgParts K H p a x1 x2 x3 x4
theorem PgParts.same {K : PySem.W.Frag} {H H' : Hp} {p : Pg} {a : Addr} {x1 x2 x3 x4 : V} (h : PgParts K H p a x1 x2 x3 x4) (s : Same H H') : PgParts K H' p a x1 x2 x3 x4 :=
  ⟨Same.ext s _ _ h.tup, h.ins.same s, h.facts.mono (Same.ext s), h.body.mono (Same.ext s), h.outs.mono (Same.ext s)⟩
theorem PgAt.same {K : PySem.W.Frag} {H H' : Hp} {p : Pg} {v : V} (h : PgAt K H p v) (s : Same H H') : PgAt K H' p v := by
  obtain ⟨a, x1, x2, x3, x4, e, q⟩ := h
  exact ⟨a, x1, x2, x3, x4, e, q.same s⟩
theorem insL_len (ins : List (Str × Kd)) : (insL ins).length = ins.length := by unfold insL; simp
section
variable {P : Program} {w : World} {K : PySem.W.Frag} {mg : Str → Option Value} {base : Heap}
theorem sc_fault_of : FnScope ["ins", "facts", "body", "outs", "known", "wrong", "own", "n"] ["ins", "facts", "body", "outs"] (defScope (top 50)) := ⟨rfl, rfl, rfl, by decide +kernel, rfl, by decide +kernel, by decide +kernel⟩
def sp_fault_of (K : PySem.W.Frag) : Sp := fun vs H Q _ => ∃ (a : Addr) (x1 x2 x3 x4 : V) (p : Pg), vs = [x1, x2, x3, x4] ∧ PgParts K H p a x1 x2 x3 x4 ∧ PgOk p ∧ ∀ H', Same H H' → Q .non H'
theorem ok_fault_of (T : Tx K mg) : FnOk P w K mg base CX0 6 385 (fdA K 385) ["ins", "facts", "body", "outs"] (sp_fault_of K) := by
  refine (f_fault_of T).ok sc_fault_of (fun vs H Q E h => ?_) (fun cdv A outer s H vs Q E hr h => ⟨_, PSs.nox (pss_cons (ps_if (pt_not (pt_val (pe_call (ok_are_ins_value T) (hr.mono (by decide)) (by rfl) (g_are_ins_value T) (f_are_ins_value T).kp (b_are_ins_value T) .nil pass0 (pa_cons (pv 0) pa_nil)))) (pss_one (ps_ret (pe_tup (pa_cons pe_str (pa_cons (pv 0) pa_nil))))) pss_nil)
  (pss_cons (ps_if (pt_not (pt_val (pe_call (ok_are_facts_value T) (hr.mono (by decide)) (by rfl) (g_are_facts_value T) (f_are_facts_value T).kp (b_are_facts_value T) .nil pass0 (pa_cons (pv 0) (pa_cons (pv 1) pa_nil))))) (pss_one (ps_ret (pe_tup (pa_cons pe_str (pa_cons (pv 1) pa_nil))))) pss_nil)
  (pss_cons (ps_if (PW.pt (pw_or (pt_not (pt_val (pe_callB (k_isi K) (by rfl) (free_isinstance T) (by decide +kernel) (pa_cons (pv 2) (pa_cons (pe_bltn (v := .ty "tuple") (by rfl) (free_tuple T) (by decide +kernel) rfl) pa_nil))))) (pw_or1 (pt_cmpR op_gt (pe_call (ok_items_in T) (hr.mono (by decide)) (by rfl) (g_items_in T) (f_items_in T).kp (b_items_in T) .nil pass0 (pa_cons (pv 2) pa_nil)) (pe_glob (v := .int _) (by rfl) (int_MOST_STATEMENTS T).choose_spec ⟨_, rfl⟩) (nomark _))))) (pss_one (ps_ret (pe_tup (pa_cons pe_str (pa_cons (pv 2) pa_nil))))) pss_nil)
  (pss_cons (ps_asg (pe_call (ok_first_wrong T) (hr.mono (by decide)) (by rfl) (g_first_wrong T) (f_first_wrong T).kp (b_first_wrong T) .nil pass0 (pa_cons (pv 2) (pa_cons (pe_callTy (k_dictT K rfl) (by rfl) (free_dict T) (by decide +kernel) (pa_cons (pv 0) pa_nil)) (pa_cons pe_int (pa_cons pe_dnewK pa_nil))))) (k_tgt K 2 rfl (pgs_cons (pg_name (i := 5) sc_fault_of.nd rfl (.inl rfl) (hf := (.inl rfl))) (pgs_cons (pg_name (i := 6) sc_fault_of.nd rfl (.inl rfl) (hf := (.inl rfl))) pgs_nil))))
  (pss_cons (ps_if (pt_cmpR op_notN (pv 5) pe_non (nomark _)) (pss_one (ps_ret (pe_tup (pa_cons pe_str (pa_cons (pv 5) pa_nil))))) pss_nil)
  (pss_cons (ps_set (i := 4) sc_fault_of.nd rfl (.inr rfl) (pe_ix (k_ixT K) (pe_call (ok_places_in T) (hr.mono (by decide)) (by rfl) (g_places_in T) (f_places_in T).kp (b_places_in T) .nil pass0 (pa_cons (pv 2) (pa_cons (pe_callTy (k_dictT K rfl) (by rfl) (free_dict T) (by decide +kernel) (pa_cons (pv 0) pa_nil)) (pa_cons (pe_tup pa_nil) pa_nil)))) pe_int (fun _ _ => rfl)))
  (pss_cons (ps_if (PW.pt (pw_or (pt_not (pt_val (pe_callB (k_isi K) (by rfl) (free_isinstance T) (by decide +kernel) (pa_cons (pv 3) (pa_cons (pe_bltn (v := .ty "tuple") (by rfl) (free_tuple T) (by decide +kernel) rfl) pa_nil))))) (pw_or (pt_not (pt_chain op_le op_le pe_int (pe_callB (k_len K) (by rfl) (free_len T) (by decide +kernel) (pa_cons (pv 3) pa_nil)) (pe_glob (v := .int _) (by rfl) (int_MOST_OUTS T).choose_spec ⟨_, rfl⟩))) (pw_or1 (pt_not (pt_val (pe_callB (k_all K rfl) (by rfl) (free_all T) (by decide +kernel) (pa_cons (pe_lc (own := [("n", 7)]) rfl sc_fault_of.nd (k_pit K (pv 3)) (blkOk_by (N := ["ins", "facts", "body", "outs", "known", "wrong", "own", "n"]) (sc := (defScope (top 50))) (by decide +kernel)) (fun _ _ _ _ _ => (pg_name (i := 7) sc_fault_of.nd rfl (.inl rfl) (hf := (.inr rfl)))) (fun _ _ _ _ _ => pts_nil) (fun _ _ _ _ _ => (pe_call (ok_has_name T) (hr.mono (by decide)) (by rfl) (g_has_name T) (f_has_name T).kp (b_has_name T) .nil pass0 (pa_cons (pv 4) (pa_cons (pv 7) pa_nil))))) pa_nil)))))))) (pss_one (ps_ret (pe_tup (pa_cons pe_str (pa_cons (pv 3) pa_nil))))) pss_nil)
  (pss_one (ps_ret pe_non))))))))), ?_⟩)
  · obtain ⟨a, x1, x2, x3, x4, p, rfl, _⟩ := h; rfl
  · obtain ⟨a, x1, x2, x3, x4, p, rfl, hp, ok, q⟩ := h
    have i2 := ok.ins.in2
    have bl := ok.blen
    have o1 := ok.o1
    have o2 := ok.o2
    have il := insL_len p.ins
    refine ⟨_, rfl, x1, p.ins, rfl, hp.ins.den, ok.ins, fun H1 s1 => ⟨true, rfl, iteF ?_⟩⟩
    have p1 := hp.same s1
    refine ⟨_, rfl, _, rfl, x1, x2, p.ins, p.facts, rfl, p1.ins, p1.facts, ok.ins, ok.facts, fun H2 s2 => ⟨true, rfl, iteF ?_⟩⟩
    have s02 := s1.trans s2
    have p2 := hp.same s02
    obtain ⟨ab, us, rfl, bT, bL⟩ := id p2.body
    refine ⟨_, rfl, use_isi (ty_tup bT) (by decide +kernel) ⟨true, rfl, iteF ?_⟩⟩
    refine ⟨_, rfl, _, p.body, rfl, p2.body, by omega, fun H3 s3 => ⟨_, _, rfl, rfl, _, rfl, lastB _ (fun l => absurd (of_decide_eq_true l) (by omega)) (fun _ => ?_)⟩⟩
    have s03 := s02.trans s3
    have p3 := hp.same s03
    -- first_wrong
    refine ⟨_, rfl, _, rfl, use_dictI p3.ins ok.ins.nd fun d1 H4 nd1 s4 hd1 => fun d2 nd2 => ?_⟩
    have s5 := s4.trans (same_new (o := .dK []) nd2)
    have p5 := p3.same s5
    refine ⟨_, d1, d2, 0, p.body, insL p.ins, rfl, p5.body, hd1.same (same_new nd2), DD.new, ok.body, by omega, by omega, fun t y H6 s6 tT => ?_⟩
    refine g_pair tT ⟨_, rfl, rfl, _, rfl, iteF ?_⟩
    have s06 := s03.trans (s5.trans s6)
    have p6 := hp.same s06
    -- places_in
    refine ⟨_, rfl, _, rfl, use_dictI p6.ins ok.ins.nd fun d3 H7 nd3 s7 hd3 => ⟨szl (show 0 ≤ 1000000 by decide), fun z nz => ?_⟩⟩
    have s8 := s7.trans (same_new (o := .tup []) nz)
    have p8 := p6.same s8
    refine ⟨_, .ref z, d3, p.body, insL p.ins, rfl, p8.body, hd3.same (same_new nz), ok.body, by omega, by omega, fun t2 y2 d4 H9 s9 tT2 hd4 => ?_⟩
    refine ⟨t2, _, _, _, rfl, rfl, tT2, rfl, ?_⟩
    have s09 := s06.trans (s8.trans s9)
    have p9 := hp.same s09
    -- outs
    obtain ⟨ao, os, rfl, oT, oL⟩ := id p9.outs
    have lo := oL.length
    rw [List.length_map] at lo
    have l3 : (!decide ((os.length : Int) ≤ 4)) = false := by rw [decide_eq_true (by omega)]; rfl
    refine ⟨_, rfl, use_isi (ty_tup oT) (by decide +kernel) ⟨true, rfl, iteF ?_⟩⟩
    refine ⟨_, rfl, ao, _, rfl, .inr oT, _, _, rfl, rfl, _, rfl, lastB _ (fun _ => ?_) (fun l => absurd (show (1 : Int) ≤ (os.length : Int) by omega) (of_decide_eq_false l))⟩
    refine ⟨_, _, rfl, rfl, _, rfl, lastB _ (fun l => absurd (l.symm.trans l3) (by decide)) (fun _ => ?_)⟩
    refine ⟨_, rfl, ao, rfl, ⟨os, oT⟩, fun D nD => lc_true (K := K) nD (walk_tup (K := K) (a := ao) (xs := os)) (by omega) (fun Hh s => Same.ext s _ _ oT) ?_ ?_⟩
    · rintro i x H10 H11 Q' hi s10 ⟨rfl, ex⟩ q'
      obtain ⟨nm, en, dn⟩ := map_at1 (DenL.mono (Same.ext s10) oL) ex
      obtain rfl : x = .str nm := dn
      refine ⟨rfl, _, rfl, _, rfl, d4, _, nm, rfl, hd4.same s10, ?_⟩
      rw [ok.o3 nm (List.mem_of_getElem? en)]
      exact q' _ (Same.refl _)
    · intro H10 bs s10 eD hb
      refine ⟨D, bs, rfl, SqL.of eD, ?_⟩
      rw [hb]
      exact ⟨true, rfl, iteF (q _ (s09.trans s10))⟩
theorem sc_is_program_value : FnScope ["thing"] ["thing"] (defScope (top 51)) := ⟨rfl, rfl, rfl, by decide +kernel, rfl, by decide +kernel, by decide +kernel⟩
def sp_is_program_value (K : PySem.W.Frag) : Sp := fun vs H Q _ => ∃ (v : V) (p : Pg), vs = [v] ∧ PgAt K H p v ∧ PgOk p ∧ ∀ H', Same H H' → Q (.bl true) H'
theorem ok_is_program_value (T : Tx K mg) : FnOk P w K mg base CX0 7 392 (fdA K 392) ["thing"] (sp_is_program_value K) := by
  refine (f_is_program_value T).ok sc_is_program_value (fun vs H Q E h => ?_) (fun cdv A outer s H vs Q E hr h => ⟨_, PSs.nox (pss_one (ps_ret (pe_and (pe_callB (k_isi K) (by rfl) (free_isinstance T) (by decide +kernel) (pa_cons (pv 0) (pa_cons (pe_bltn (v := .ty "tuple") (by rfl) (free_tuple T) (by decide +kernel) rfl) pa_nil))) (pe_and (pe_cmpR op_eq (pe_callB (k_len K) (by rfl) (free_len T) (by decide +kernel) (pa_cons (pv 0) pa_nil)) pe_int (nomark _)) (pe_one (pe_cmpR op_isN (pe_call (ok_fault_of T) (hr.mono (by decide)) (by rfl) (g_fault_of T) (f_fault_of T).kp (b_fault_of T) .nil pass0 (pa_cons (pe_ix (k_ixT K) (pv 0) pe_int (fun _ _ => rfl)) (pa_cons (pe_ix (k_ixT K) (pv 0) pe_int (fun _ _ => rfl)) (pa_cons (pe_ix (k_ixT K) (pv 0) pe_int (fun _ _ => rfl)) (pa_cons (pe_ix (k_ixT K) (pv 0) pe_int (fun _ _ => rfl)) pa_nil))))) pe_non (nomark _))))))), ?_⟩)
  · obtain ⟨v, p, rfl, _⟩ := h; rfl
  · obtain ⟨v, p, rfl, ⟨a, x1, x2, x3, x4, rfl, hp⟩, ok, q⟩ := h
    refine ⟨_, rfl, use_isi (ty_tup hp.tup) (by decide +kernel) ⟨true, rfl, iteT ?_⟩⟩
    refine ⟨_, rfl, a, _, rfl, .inr hp.tup, rfl, true, rfl, iteT ?_⟩
    refine ⟨_, rfl, a, _, _, _, rfl, rfl, hp.tup, rfl, _, rfl, a, _, _, _, rfl, rfl, hp.tup, rfl, _, rfl, a, _, _, _, rfl, rfl, hp.tup, rfl, _, rfl, a, _, _, _, rfl, rfl, hp.tup, rfl, ?_⟩
    exact ⟨a, x1, x2, x3, x4, p, rfl, hp, ok, fun H1 s1 => ⟨rfl, q _ s1⟩⟩
theorem sc_need_program : FnScope ["program"] ["program"] (defScope (top 52)) := ⟨rfl, rfl, rfl, by decide +kernel, rfl, by decide +kernel, by decide +kernel⟩
def sp_need_program (K : PySem.W.Frag) : Sp := fun vs H Q _ => ∃ (v : V) (p : Pg), vs = [v] ∧ PgAt K H p v ∧ PgOk p ∧ ∀ H', Same H H' → Q .non H'
theorem ok_need_program (T : Tx K mg) : FnOk P w K mg base CX0 8 399 (fdA K 399) ["program"] (sp_need_program K) := by
  refine (f_need_program T).ok sc_need_program (fun vs H Q E h => ?_) (fun cdv A outer s H vs Q E hr h => ⟨_, PSs.nox (pss_one (ps_if (pt_not (pt_val (pe_call (ok_is_program_value T) (hr.mono (by decide)) (by rfl) (g_is_program_value T) (f_is_program_value T).kp (b_is_program_value T) .nil pass0 (pa_cons (pv 0) pa_nil)))) (pss_one ps_never) pss_nil)), ?_⟩)
  · obtain ⟨v, p, rfl, _⟩ := h; rfl
  · obtain ⟨v, p, rfl, hp, ok, q⟩ := h
    exact ⟨_, rfl, v, p, rfl, hp, ok, fun H1 s1 => ⟨true, rfl, iteF (q _ s1)⟩⟩
end
end K28
end
section
set_option Elab.async false
set_option linter.all false
set_option maxRecDepth 100000
set_option maxHeartbeats 4000000
set_option exponentiation.threshold 2000
namespace K28
open PySem L2
def unitF (n i : Nat) : List Int := (List.range n).map fun p => if i = p then 1 else 0
def sumF (xs ys : List Int) (m : Int) : List Int := List.zipWith (fun a b => a + m * b) xs ys
def timesF (m : Int) (xs : List Int) : List Int := xs.map fun x => m * x
def kwalls (f : List Int) (k : Kd) : List (List Int) := [timesF (-1) f ++ [(k.k : Int)], f ++ [if k.both then (k.k : Int) else 0]]
def idxN (ins : List (Str × Kd)) (x : Str) : Nat := (ins.map (·.1)).idxOf x
def fwall (ins : List (Str × Kd)) (q : Str × Str) : List Int := sumF (unitF ins.length (idxN ins q.2)) (unitF ins.length (idxN ins q.1)) (-1) ++ [0]
def inKW (ins : List (Str × Kd)) (i : Nat) : List (List Int) := kwalls (unitF ins.length i) (ins.getD i ("", ⟨true, 0⟩)).2
def inWalls (ins : List (Str × Kd)) (facts : List (Str × Str)) : List (List Int) := (List.range ins.length).flatMap (inKW ins) ++ facts.map (fwall ins)
section
variable {P : Program} {w : World} {K : PySem.W.Frag} {mg : Str → Option Value} {base : Heap}
theorem b_form_sum (T : Tx K mg) : Binds K (fdA K 436) ["one", "other", "many"] [] := by
  obtain ⟨ds, hv, hb⟩ := (f_form_sum T).binds1 (ps := ["one", "other", "many"]) 3 1 (by simp) rfl (fun Tt kV doc pm an cdv ct us its h1 h2 => by
    match us, h1, its, h2 with
    | [_, _, _], _, [_], _ =>
      refine ⟨?k, ?a, ?b⟩
      case a => exact rfl
      case b => kernel_rfl)
  cases hv
  exact hb
theorem sc_unit_form : FnScope ["n", "at", "place"] ["n", "at"] (defScope (top 60)) := ⟨rfl, rfl, rfl, by decide +kernel, rfl, by decide +kernel, by decide +kernel⟩
def sp_unit_form (K : PySem.W.Frag) : Sp := fun vs H Q _ => ∃ (n i : Nat), vs = [.int (n : Int), .int (i : Int)] ∧ n ≤ 1000 ∧ ∀ v H', Same H H' → Den K H' (wd (unitF n i)) v → Q v H'
theorem ok_unit_form (T : Tx K mg) : FnOk P w K mg base CX0 1 430 (fdA K 430) ["n", "at"] (sp_unit_form K) := by
  refine (f_unit_form T).ok sc_unit_form (fun vs H Q E h => ?_) (fun cdv A outer s H vs Q E hr h => ⟨_, PSs.nox (pss_one (ps_ret (pe_callTy (k_tuple K) (by rfl) (free_tuple T) (by decide +kernel) (pa_cons (pe_lc (own := [("place", 2)]) rfl sc_unit_form.nd (pi_range1 (by rfl) (free_range T) (pa_cons (pv 0) pa_nil)) (blkOk_by (N := ["n", "at", "place"]) (sc := (defScope (top 60))) (by decide +kernel)) (fun _ _ _ _ _ => (pg_name (i := 2) sc_unit_form.nd rfl (.inl rfl) (hf := (.inr rfl)))) (fun _ _ _ _ _ => pts_nil) (fun _ _ _ _ _ => (pe_callTy call_int1 (by rfl) (free_int T) (by decide +kernel) (pa_cons (pe_cmpR op_eq (pv 1) (pv 2) (nomark _)) pa_nil)))) pa_nil)))), ?_⟩)
  · obtain ⟨n, i, rfl, _⟩ := h; rfl
  · obtain ⟨n, i, rfl, hn, q⟩ := h
    refine ⟨_, rfl, (n : Int), rfl, by omega, by omega, fun D nD => lc_rngI (n := n) nD (fun p => if i = p then 1 else 0) (by omega) (fun _ => by rfl) (fun p Q' H2 hp s2 q' => ?_) (fun H2 s2 eD => ?_)⟩
    · refine ⟨_, rfl, _, rfl, rfl, .inr ⟨_, rfl, ?_⟩⟩
      have e : (if decide (V.int (i : Int) = V.int (0 + (p : Int))) = true then (1 : Int) else 0) = if i = p then 1 else 0 := by
        by_cases c : i = p
        · rw [if_pos c, if_pos (decide_eq_true (by rw [c, Int.zero_add]))]
        · rw [if_neg c, if_neg (fun z => c (by have := V.int.inj (of_decide_eq_true z); omega))]
      rw [e]
      exact q'
    · refine ⟨D, _, rfl, .inl ⟨SqL.of eD, fun l nl => ?_⟩⟩
      exact q _ _ (s2.trans (same_new nl)) (den_wd (.inl (.inl upd_same)))
theorem sc_form_sum : FnScope ["one", "other", "many", "a", "b"] ["one", "other", "many"] (defScope (top 61)) := ⟨rfl, rfl, rfl, by decide +kernel, rfl, by decide +kernel, by decide +kernel⟩
def sp_form_sum (K : PySem.W.Frag) : Sp := fun vs H Q _ => ∃ (u v : V) (m : Int) (xs ys : List Int), vs = [u, v, .int m] ∧ Den K H (wd xs) u ∧ Den K H (wd ys) v ∧ xs.length ≤ 1000 ∧ -100 ≤ m ∧ m ≤ 100 ∧ ∀ v H', Same H H' → Den K H' (wd (sumF xs ys m)) v → Q v H'
theorem ok_form_sum (T : Tx K mg) : FnOk P w K mg base CX0 1 436 (fdA K 436) ["one", "other", "many"] (sp_form_sum K) := by
  refine (f_form_sum T).ok sc_form_sum (fun vs H Q E h => ?_) (fun cdv A outer s H vs Q E hr h => ⟨_, PSs.nox (pss_one (ps_ret (pe_callTy (k_tuple K) (by rfl) (free_tuple T) (by decide +kernel) (pa_cons (pe_lc (own := [("a", 3), ("b", 4)]) rfl sc_form_sum.nd (k_zip K false false (by rfl) (free_zip T) (pa_cons (pv 0) (pa_cons (pv 1) pa_nil))) (blkOk_by (N := ["one", "other", "many", "a", "b"]) (sc := (defScope (top 61))) (by decide +kernel)) (fun _ _ _ _ _ => (k_tgt K 2 rfl (pgs_cons (pg_name (i := 3) sc_form_sum.nd rfl (.inl rfl) (hf := (.inr rfl))) (pgs_cons (pg_name (i := 4) sc_form_sum.nd rfl (.inl rfl) (hf := (.inr rfl))) pgs_nil)))) (fun _ _ _ _ _ => pts_nil) (fun _ _ _ _ _ => (pe_op op_add (pv 3) (pe_op op_mul (pv 2) (pv 4))))) pa_nil)))), ?_⟩)
  · obtain ⟨u, v, m, xs, ys, rfl, _⟩ := h; rfl
  · obtain ⟨u, v, m, xs, ys, rfl, hu, hv, hz, m1, m2, q⟩ := h
    obtain ⟨a, rfl, hA⟩ := hu.wd
    obtain ⟨b, rfl, hB⟩ := hv.wd
    refine ⟨_, rfl, _, rfl, a, b, _, _, rfl, hA, hB, fun D nD => lc_zipI nD hA hB (fun x y => x + m * y) (by omega) (fun _ _ => by rfl) (fun x y Q' H2 hx hy s2 q' => ?_) (fun H2 s2 eD => ?_)⟩
    · exact ⟨_, rfl, _, rfl, _, rfl, m, y, rfl, rfl, .inl (by omega), _, _, rfl, rfl, q'⟩
    · refine ⟨D, _, rfl, .inl ⟨SqL.of eD, fun l nl => ?_⟩⟩
      exact q _ _ (s2.trans (same_new nl)) (den_wd (.inl (.inl upd_same)))
theorem sc_form_times : FnScope ["many", "form", "item"] ["many", "form"] (defScope (top 62)) := ⟨rfl, rfl, rfl, by decide +kernel, rfl, by decide +kernel, by decide +kernel⟩
def sp_form_times (K : PySem.W.Frag) : Sp := fun vs H Q _ => ∃ (u : V) (m : Int) (xs : List Int), vs = [.int m, u] ∧ Den K H (wd xs) u ∧ xs.length ≤ 1000 ∧ -100 ≤ m ∧ m ≤ 100 ∧ ∀ v H', Same H H' → Den K H' (wd (timesF m xs)) v → Q v H'
theorem ok_form_times (T : Tx K mg) : FnOk P w K mg base CX0 1 441 (fdA K 441) ["many", "form"] (sp_form_times K) := by
  refine (f_form_times T).ok sc_form_times (fun vs H Q E h => ?_) (fun cdv A outer s H vs Q E hr h => ⟨_, PSs.nox (pss_one (ps_ret (pe_callTy (k_tuple K) (by rfl) (free_tuple T) (by decide +kernel) (pa_cons (pe_lc (own := [("item", 2)]) rfl sc_form_times.nd (k_pit K (pv 1)) (blkOk_by (N := ["many", "form", "item"]) (sc := (defScope (top 62))) (by decide +kernel)) (fun _ _ _ _ _ => (pg_name (i := 2) sc_form_times.nd rfl (.inl rfl) (hf := (.inr rfl)))) (fun _ _ _ _ _ => pts_nil) (fun _ _ _ _ _ => (pe_op op_mul (pv 0) (pv 2)))) pa_nil)))), ?_⟩)
  · obtain ⟨u, m, xs, rfl, _⟩ := h; rfl
  · obtain ⟨u, m, xs, rfl, hu, hz, m1, m2, q⟩ := h
    obtain ⟨a, rfl, hA⟩ := hu.wd
    refine ⟨_, rfl, a, rfl, ⟨_, hA⟩, fun D nD => lc_tupI nD hA (fun x => m * x) (by omega) (fun _ => by rfl) (fun x Q' H2 hx s2 q' => ?_) (fun H2 s2 eD => ?_)⟩
    · exact ⟨_, rfl, _, rfl, m, x, rfl, rfl, .inl (by omega), q'⟩
    · refine ⟨D, _, rfl, .inl ⟨SqL.of eD, fun l nl => ?_⟩⟩
      exact q _ _ (s2.trans (same_new nl)) (den_wd (.inl (.inl upd_same)))
/-- a list of data -/
def LD (K : PySem.W.Frag) (H : Hp) (l : Addr) (ds : List Dt) : Prop := ∃ vs, H l = some (.lst vs) ∧ DenL K H ds vs
theorem LD.same {H H' : Hp} {l : Addr} {ds : List Dt} (h : LD K H l ds) (s : Same H H') : LD K H' l ds := by
  obtain ⟨vs, h1, h2⟩ := h
  exact ⟨vs, s _ _ h1, DenL.mono (Same.ext s) h2⟩
theorem LD.mono {H H' : Hp} {l : Addr} {ds : List Dt} (h : LD K H l ds) (e : ExT K H H') (hl : H' l = H l) : LD K H' l ds := by
  obtain ⟨vs, h1, h2⟩ := h
  exact ⟨vs, hl.trans h1, DenL.mono e h2⟩
theorem sc_kind_walls : FnScope ["form", "kind", "low"] ["form", "kind"] (defScope (top 63)) := ⟨rfl, rfl, rfl, by decide +kernel, rfl, by decide +kernel, by decide +kernel⟩
/-- a tuple's end put on -/
theorem cat_one {H : Hp} {a p : Addr} {xs : List Int} {y : Int} {Q : VK} (ha : SqT K H a (xs.map V.int)) (hp : SqT K H p [.int y]) (hz : xs.length ≤ 1000) (q : ∀ v H', Same H H' → Den K H' (wd (xs ++ [y])) v → Q v H') : kCat K (.ref a) (.ref p) H Q := by
  refine use_cat ha hp (by simp; omega) fun c H' s hc => q _ _ s (den_wd ?_)
  rw [List.map_append]
  exact hc
def sp_kind_walls (K : PySem.W.Frag) : Sp := fun vs H Q _ => ∃ (u v : V) (f : List Int) (k : Kd), vs = [u, v] ∧ Den K H (wd f) u ∧ Den K H k.d v ∧ f.length ≤ 500 ∧ ∀ l H', Same H H' → LD K H' l ((kwalls f k).map wd) → Q (.ref l) H'
theorem ok_kind_walls (T : Tx K mg) : FnOk P w K mg base CX0 2 448 (fdA K 448) ["form", "kind"] (sp_kind_walls K) := by
  refine (f_kind_walls T).ok sc_kind_walls (fun vs H Q E h => ?_) (fun cdv A outer s H vs Q E hr h => ⟨_, PSs.nox (pss_cons (ps_set (i := 2) sc_kind_walls.nd rfl (.inl rfl) (pe_ifExp (pt_cmpR op_eq (pe_ix (k_ixT K) (pv 1) pe_int (fun _ _ => rfl)) pe_str (nomark _)) (pe_ix (k_ixT K) (pv 1) pe_int (fun _ _ => rfl)) pe_int))
  (pss_one (ps_ret (pe_lst (pa_cons (pe_op (k_cat K) (pe_call (ok_form_times T) (hr.mono (by decide)) (by rfl) (g_form_times T) (f_form_times T).kp (b_form_times T) .nil pass0 (pa_cons (pe_un un_neg pe_int) (pa_cons (pv 0) pa_nil))) (pe_tup (pa_cons (pe_ix (k_ixT K) (pv 1) pe_int (fun _ _ => rfl)) pa_nil))) (pa_cons (pe_op (k_cat K) (pv 0) (pe_tup (pa_cons (pv 2) pa_nil))) pa_nil)))))), ?_⟩)
  · obtain ⟨u, v, f, k, rfl, _⟩ := h; rfl
  · obtain ⟨u, v, f, k, rfl, hu, hv, hz, q⟩ := h
    obtain ⟨a, rfl, aT⟩ := hu.wd
    obtain ⟨b, rfl, bT⟩ := kd_den hv
    have fin : ∀ low : Int, low = (if k.both then (k.k : Int) else 0) → tRet (tLst (tCons (tOp (kCat K) (tCall (sp_form_times K) [] E0 (tCons (tUn (rU fun i => .int (-i)) (tC (.int 1))) (tCons (tVar 0) tNil))) (tTup (tCons (tOp (rIxT K) (tVar 1) (tC (.int 1))) tNil)))
        (tCons (tOp (kCat K) (tVar 0) (tTup (tCons (tVar 2) tNil))) tNil))) { nx := fun _ H' => Q .non H', rt := Q } [some (.ref a), some (.ref b), some (.int low)] H := by
      intro low elow
      refine ⟨_, rfl, _, rfl, .ref a, -1, f, rfl, den_wd aT, by omega, by decide, by decide, fun v1 H1 s1 d1 => ?_⟩
      obtain ⟨a1, rfl, aT1⟩ := d1.wd
      have bT1 := Same.ext s1 _ _ bT
      refine ⟨_, rfl, b, _, _, _, rfl, rfl, bT1, rfl, szl (show 1 ≤ 1000000 by decide), fun t nt => ?_⟩
      refine cat_one (Same.ext (same_new nt) _ _ aT1) (.inl (.inl upd_same)) (by unfold timesF; simp; omega) fun w1 H2 s2 dw1 => ?_
      have s02 := s1.trans ((same_new (o := .tup [.int (k.k : Int)]) nt).trans s2)
      refine ⟨_, rfl, _, rfl, szl (show 1 ≤ 1000000 by decide), fun t2 nt2 => ?_⟩
      refine cat_one (Same.ext (s02.trans (same_new nt2)) _ _ aT) (.inl (.inl upd_same)) (by omega) fun w2 H3 s3 dw2 => ?_
      have s23 := (same_new (o := .tup [.int low]) nt2).trans s3
      refine ⟨szl (show 2 ≤ 1000000 by decide), fun l nl => ?_⟩
      refine q l _ (s02.trans (s23.trans (same_new nl))) ⟨_, upd_same, ?_⟩
      rw [elow] at dw2
      exact denL_cons (dw1.mono (Same.ext (s23.trans (same_new nl)))) (denL_cons (dw2.mono (Same.ext (same_new nl))) denL_nil)
    refine ⟨_, rfl, b, _, _, _, rfl, rfl, bT, rfl, rfl, _, rfl, lastB _ (fun l => ?_) (fun l => ?_)⟩
    · refine ⟨_, rfl, b, _, _, _, rfl, rfl, bT, rfl, fin _ ?_⟩
      cases h : k.both with
      | true => rfl
      | false => rw [h] at l; exact absurd l (by decide)
    · refine fin 0 ?_
      rw [if_neg]
      intro z
      rw [z] at l
      exact absurd l (by decide)
theorem sc_fact_wall : FnScope ["ins", "small", "large", "names", "n", "name", "kind"] ["ins", "small", "large"] (defScope (top 64)) := ⟨rfl, rfl, rfl, by decide +kernel, rfl, by decide +kernel, by decide +kernel⟩
theorem index_at {xs : List Str} {x : Str} (h : x ∈ xs) : ∃ j, xs.idxOf x = j ∧ xs[j]? = some x ∧ ∀ m z, m < j → xs[m]? = some z → z ≠ x := by
  refine ⟨_, rfl, ?_, ?_⟩
  · have hi := List.idxOf_lt_length_of_mem h
    rw [List.getElem?_eq_getElem hi, List.getElem_idxOf hi]
  · intro m z hm e ez
    have hm2 := (List.getElem?_eq_some_iff.mp e).1
    have := List.not_of_lt_findIdx (xs := xs) (p := (· == x)) (i := m) hm
    rw [(List.getElem?_eq_some_iff.mp e).2] at this
    simp [ez] at this
/-- names.index(x) -/
theorem use_index {H : Hp} {a : Addr} {xs : List Str} {x : Str} {Q : VK} (hl : SqL K H a (xs.map V.str)) (h : x ∈ xs) (q : Q (.int (xs.idxOf x : Nat)) H) : kIndex K (.ref a) [.str x] H Q := by
  unfold kIndex
  obtain ⟨j, ej, hj, hno⟩ := index_at h
  refine ⟨a, xs.map V.str, .str x, j, .str x, rfl, rfl, hl, rfl, ?_, ?_, ?_, ?_, ?_⟩
  · rw [List.all_map]; simp [flatV]
  · rw [List.getElem?_map, hj]; rfl
  · show (x == x) = true
    exact beq_self_eq_true x
  · intro m z' hm e
    rw [List.getElem?_map] at e
    cases ez : xs[m]? with
    | none => rw [ez] at e; cases e
    | some z =>
      rw [ez] at e
      have e2 : V.str z = z' := Option.some.inj e
      rw [← e2]
      exact beq_eq_false_iff_ne.mpr (hno m z hm ez)
  · rw [← ej]; exact q
def sp_fact_wall (K : PySem.W.Frag) : Sp := fun vs H Q _ => ∃ (v : V) (ins : List (Str × Kd)) (q : Str × Str), vs = [v, .str q.1, .str q.2] ∧ Den K H (.t (ins.map inD)) v ∧ ins.length ≤ 100 ∧ q.1 ∈ ins.map (·.1) ∧ q.2 ∈ ins.map (·.1) ∧ ∀ v H', Same H H' → Den K H' (wd (fwall ins q)) v → Q v H'
theorem ok_fact_wall (T : Tx K mg) : FnOk P w K mg base CX0 2 453 (fdA K 453) ["ins", "small", "large"] (sp_fact_wall K) := by
  refine (f_fact_wall T).ok sc_fact_wall (fun vs H Q E h => ?_) (fun cdv A outer s H vs Q E hr h => ⟨_, PSs.nox (pss_cons (ps_setLc (i := 3) (own := [("name", 5), ("kind", 6)]) rfl sc_fact_wall.nd rfl rfl (sw_true rfl rfl rfl (by decide +kernel)) (k_pit K (pv 0)) (blkOk_by (N := ["ins", "small", "large", "names", "n", "name", "kind"]) (sc := (defScope (top 64))) (by decide +kernel)) (fun _ _ _ _ _ => (k_tgt K 2 rfl (pgs_cons (pg_name (i := 5) sc_fact_wall.nd rfl (.inl rfl) (hf := (.inr rfl))) (pgs_cons (pg_name (i := 6) sc_fact_wall.nd rfl (.inl rfl) (hf := (.inr rfl))) pgs_nil)))) (fun _ _ _ _ _ => pts_nil) (fun _ _ _ _ _ => (pv 5)))
  (pss_cons (ps_set (i := 4) sc_fact_wall.nd rfl (.inl rfl) (pe_callB (k_len K) (by rfl) (free_len T) (by decide +kernel) (pa_cons (pv 3) pa_nil)))
  (pss_one (ps_ret (pe_op (k_cat K) (pe_call (ok_form_sum T) (hr.mono (by decide)) (by rfl) (g_form_sum T) (f_form_sum T).kp (b_form_sum T) .nil pass0 (pa_cons (pe_call (ok_unit_form T) (hr.mono (by decide)) (by rfl) (g_unit_form T) (f_unit_form T).kp (b_unit_form T) .nil pass0 (pa_cons (pv 4) (pa_cons (pe_bm PySem.F.plainAttrs_list PySem.F.slot_list_index PySem.F.type_list_index (k_index K) (pv 3) (pa_cons (pv 2) pa_nil)) pa_nil))) (pa_cons (pe_call (ok_unit_form T) (hr.mono (by decide)) (by rfl) (g_unit_form T) (f_unit_form T).kp (b_unit_form T) .nil pass0 (pa_cons (pv 4) (pa_cons (pe_bm PySem.F.plainAttrs_list PySem.F.slot_list_index PySem.F.type_list_index (k_index K) (pv 3) (pa_cons (pv 1) pa_nil)) pa_nil))) (pa_cons (pe_un un_neg pe_int) pa_nil)))) (pe_tup (pa_cons pe_int pa_nil))))))), ?_⟩)
  · obtain ⟨v, ins, p, rfl, _⟩ := h; rfl
  · obtain ⟨v, ins, p, rfl, ⟨a, us, rfl, aT, aL⟩, hz, m1, m2, q⟩ := h
    have ln := aL.length
    rw [List.length_map] at ln
    refine ⟨_, rfl, a, rfl, ⟨us, aT⟩, fun D nD => lc_map (K := K) nD (n := ins.length) (G := fun Hh => SqT K Hh a us) (Y := YAt us) (by rw [← ln]; exact walk_tup) (fun i => .s (ins.getD i ("", ⟨true, 0⟩)).1) (by omega) (fun Hh s => Same.ext s _ _ aT) ?_ ?_⟩
    · rintro i x H1 H2 Q' hi s1 ⟨rfl, ex⟩ q'
      obtain ⟨r, er, dr⟩ := map_at1 (DenL.mono (Same.ext s1) aL) ex
      obtain ⟨b, y, rfl, bT, dy⟩ := in_den dr
      refine g_pair bT ⟨rfl, _, rfl, q' _ _ (Same.refl _) ?_⟩
      show V.str _ = V.str _
      rw [List.getD_eq_getElem?_getD, er]; rfl
    · intro H1 ys s1 eD dL
      have en : (List.range ins.length).map (fun i => Dt.s (ins.getD i ("", ⟨true, 0⟩)).1) = (ins.map (·.1)).map Dt.s := by
        rw [map_at ins ("", ⟨true, 0⟩) (fun r => Dt.s r.1), List.map_map]; rfl
      rw [en] at dL
      rw [dL.strs] at eD
      refine ⟨_, rfl, D, _, rfl, .inl (SqL.of eD), ?_⟩
      rw [List.length_map, List.length_map]
      refine ⟨_, rfl, _, rfl, .inl ⟨rfl, _, SqL.of eD⟩, _, rfl, use_index (SqL.of eD) m2 ?_⟩
      refine ⟨ins.length, idxN ins p.2, rfl, by omega, fun v1 H2 s2 d1 => ?_⟩
      have eD2 := s2 _ _ eD
      refine ⟨_, rfl, _, rfl, .inl ⟨rfl, _, SqL.of eD2⟩, _, rfl, use_index (SqL.of eD2) m1 ?_⟩
      refine ⟨ins.length, idxN ins p.1, rfl, by omega, fun v2 H3 s3 d2 => ?_⟩
      refine ⟨_, rfl, ?_⟩
      refine ⟨v1, v2, -1, _, _, rfl, d1.mono (Same.ext s3), d2, by unfold unitF; simp; omega, by decide, by decide, fun v3 H4 s4 d3 => ?_⟩
      obtain ⟨a3, rfl, aT3⟩ := d3.wd
      refine ⟨szl (show 1 ≤ 1000000 by decide), fun t nt => ?_⟩
      refine cat_one (Same.ext (same_new nt) _ _ aT3) (.inl (.inl upd_same)) (by unfold sumF unitF; simp; omega) fun v4 H5 s5 d4 => ?_
      exact q _ _ (s1.trans (s2.trans (s3.trans (s4.trans ((same_new nt).trans s5))))) d4
theorem sc_input_walls : FnScope ["ins", "facts", "found", "at", "name", "kind", "small", "large"] ["ins", "facts"] (defScope (top 65)) := ⟨rfl, rfl, rfl, by decide +kernel, rfl, by decide +kernel, by decide +kernel⟩
def sp_input_walls (K : PySem.W.Frag) : Sp := fun vs H Q _ => ∃ (v u : V) (ins : List (Str × Kd)) (facts : List (Str × Str)), vs = [v, u] ∧ Den K H (.t (ins.map inD)) v ∧ Den K H (.t (facts.map ftD)) u ∧ ins.length ≤ 100 ∧ FactsOk ins facts ∧
  ∀ l H', Same H H' → H l = none → LD K H' l ((inWalls ins facts).map wd) → Q (.ref l) H'
theorem ok_input_walls (T : Tx K mg) : FnOk P w K mg base CX0 3 458 (fdA K 458) ["ins", "facts"] (sp_input_walls K) := by
  refine (f_input_walls T).ok sc_input_walls (fun vs H Q E h => ?_) (fun cdv A outer s H vs Q E hr h => ⟨_, PSs.nox (pss_cons (ps_set (i := 2) sc_input_walls.nd rfl (.inl rfl) (pe_lst pa_nil))
  (pss_cons (ps_for PassesOwn.never rfl (k_enum K false (by rfl) (free_enumerate T) (pa_cons (pv 0) pa_nil)) (k_tgt K 2 rfl (pgs_cons (pg_name (i := 3) sc_input_walls.nd rfl (.inl rfl) (hf := (.inl rfl))) (pgs_cons (k_tgt K 2 rfl (pgs_cons (pg_name (i := 4) sc_input_walls.nd rfl (.inl rfl) (hf := (.inl rfl))) (pgs_cons (pg_name (i := 5) sc_input_walls.nd rfl (.inl rfl) (hf := (.inl rfl))) pgs_nil))) pgs_nil)))
    (pss_one (ps_expr (pe_bm PySem.F.plainAttrs_list PySem.F.slot_list_extend PySem.F.type_list_extend mt_extend (pv 2) (pa_cons (pe_call (ok_kind_walls T) (hr.mono (by decide)) (by rfl) (g_kind_walls T) (f_kind_walls T).kp (b_kind_walls T) .nil pass0 (pa_cons (pe_call (ok_unit_form T) (hr.mono (by decide)) (by rfl) (g_unit_form T) (f_unit_form T).kp (b_unit_form T) .nil pass0 (pa_cons (pe_callB (k_len K) (by rfl) (free_len T) (by decide +kernel) (pa_cons (pv 0) pa_nil)) (pa_cons (pv 3) pa_nil))) (pa_cons (pv 5) pa_nil))) pa_nil)))))
  (pss_one (ps_ret (pe_op op_cat (pv 2) (pe_lc (own := [("small", 6), ("large", 7)]) rfl sc_input_walls.nd (k_pit K (pv 1)) (blkOk_by (N := ["ins", "facts", "found", "at", "name", "kind", "small", "large"]) (sc := (defScope (top 65))) (by decide +kernel)) (fun _ _ _ _ _ => (k_tgt K 2 rfl (pgs_cons (pg_name (i := 6) sc_input_walls.nd rfl (.inl rfl) (hf := (.inr rfl))) (pgs_cons (pg_name (i := 7) sc_input_walls.nd rfl (.inl rfl) (hf := (.inr rfl))) pgs_nil)))) (fun _ _ _ _ _ => pts_nil) (fun _ _ _ _ _ => (pe_call (ok_fact_wall T) (hr.mono (by decide)) (by rfl) (g_fact_wall T) (f_fact_wall T).kp (b_fact_wall T) .nil pass0 (pa_cons (pv 0) (pa_cons (pv 6) (pa_cons (pv 7) pa_nil))))))))))), ?_⟩)
  · obtain ⟨v, u, ins, facts, rfl, _⟩ := h; rfl
  · obtain ⟨v, u, ins, facts, rfl, hv, hu, hz, fk, q⟩ := h
    obtain ⟨a, us, rfl, aT, aL⟩ := id hv
    obtain ⟨b, fs, rfl, bT, bL⟩ := id hu
    have ln := aL.length
    rw [List.length_map] at ln
    have lf := bL.length
    rw [List.length_map] at lf
    have f1 := fk.f1
    refine ⟨szl (show 0 ≤ 1000000 by decide), fun f nf => ?_⟩
    refine ⟨_, rfl, a, us, rfl, Same.ext (same_new nf) _ _ aT, ?_⟩
    refine for_it (walk_enumB (k := false) (K := K) (a := a) (xs := us)) (fun i σ H' => (∃ o3 o4 o5 o6 o7, σ = [some (.ref a), some (.ref b), some (.ref f), o3, o4, o5, o6, o7]) ∧ Same H H' ∧ LD K H' f (((List.range i).flatMap (inKW ins)).map wd))
      ⟨⟨_, _, _, _, _, rfl⟩, same_new nf, [], upd_same, rfl⟩ (fun i σ H' _ h => Same.ext h.2.1 _ _ aT) ?_ ?_
    · rintro i x σ H3 H4 hi ⟨⟨o3, o4, o5, o6, o7, rfl⟩, s3, hf⟩ ⟨A', e1, e2, rfl, nA, rfl, ee, ef⟩
      cases (Option.some.inj ee)
      have ef2 : us[i]? = some e2 := ef
      have s4 : Same H (upd H3 A' (.tup [.int (i : Int), e2])) := s3.trans (same_new nA)
      have hf4 := hf.same (same_new (o := .tup [.int (i : Int), e2]) nA)
      have tA : SqT K (upd H3 A' (.tup [.int (i : Int), e2])) A' [.int (i : Int), e2] := .inl (.inl upd_same)
      generalize upd H3 A' (.tup [.int (i : Int), e2]) = H4 at s4 hf4 tA ⊢
      obtain ⟨r, er, dr⟩ := map_at1 (DenL.mono (Same.ext s4) aL) ef2
      obtain ⟨ar, y, rfl, rT, dy⟩ := in_den dr
      have hi2 : i < ins.length := (List.getElem?_eq_some_iff.mp er).1
      refine ⟨A', _, rfl, tA, rfl, _, _, rfl, _, _, rfl, ⟨ar, _, rfl, rT, rfl, _, _, rfl, _, _, rfl, rfl, rfl, ?_⟩⟩
      obtain ⟨vs4, ev4, dv4⟩ := hf4
      refine ⟨_, rfl, .inl ⟨rfl, _, SqL.of ev4⟩, _, rfl, a, us, rfl, .inr (Same.ext s4 _ _ aT), _, rfl, ?_⟩
      rw [ln]
      refine ⟨ins.length, i, rfl, by omega, fun v1 H5 s5 d1 => ⟨_, rfl, ?_⟩⟩
      refine ⟨v1, y, _, r.2, rfl, d1, dy.mono (Same.ext s5), by unfold unitF; simp; omega, fun l H6 s6 ⟨ws, ew, dw⟩ => ?_⟩
      have s56 := s5.trans s6
      have ev6 := s56 _ _ ev4
      have lv := dv4.length
      have lw := dw.length
      have lb : (List.map wd (List.flatMap (inKW ins) (List.range i))).length = 2 * i := by
        rw [List.length_map, List.length_flatMap]
        have : ∀ m : Nat, (List.map (fun a => (inKW ins a).length) (List.range m)).sum = 2 * m := fun m => by
          induction m with
          | zero => rfl
          | succ m ih => rw [List.range_succ, List.map_append, List.sum_append, ih]; simp [inKW, kwalls]; omega
        exact this i
      refine ⟨f, l, vs4, ws, rfl, rfl, ev6, ew, szl (by simp [kwalls] at lw; omega), ⟨_, _, _, _, _, rfl⟩, same_upd (s4.trans s56) nf, _, upd_same, ?_⟩
      have xt : ExT K H6 (upd H6 f (.lst (vs4 ++ ws))) := ext_upd ev6 rfl
      rw [List.range_succ, List.flatMap_append, List.map_append]
      refine DenL.append ((dv4.mono (Same.ext s56)).mono xt) (DenL.mono xt ?_)
      have e3 : List.flatMap (inKW ins) [i] = kwalls (unitF ins.length i) r.2 := by
        rw [List.flatMap_singleton]
        unfold inKW
        rw [List.getD_eq_getElem?_getD, er]; rfl
      rw [e3]; exact dw
    · rintro σ H3 ⟨⟨o3, o4, o5, o6, o7, rfl⟩, s3, vs3, ev3, dv3⟩
      have bT3 := Same.ext s3 _ _ bT
      refine ⟨_, rfl, _, rfl, b, rfl, ⟨fs, bT3⟩, fun D nD => lc_map (K := K) nD (n := facts.length) (G := fun Hh => SqT K Hh b fs) (Y := YAt fs) (by rw [← lf]; exact walk_tup) (fun i => wd (fwall ins (facts.getD i ("", "")))) (by omega) (fun Hh s => Same.ext s _ _ bT3) ?_ ?_⟩
      · rintro i x H4 H5 Q' hi s4 ⟨rfl, ex⟩ q'
        obtain ⟨r, er, dr⟩ := map_at1 (DenL.mono (Same.ext (s3.trans s4)) bL) ex
        obtain ⟨c, rfl, cT⟩ := ft_den dr
        have fr := fk.f2 r (List.mem_of_getElem? er)
        refine g_pair cT ⟨rfl, _, rfl, _, rfl, _, rfl, ?_⟩
        refine ⟨.ref a, ins, r, rfl, hv.mono (Same.ext (s3.trans s4)), hz, fr.1, fr.2.1, fun v1 H6 s6 d1 => q' _ _ s6 ?_⟩
        rw [List.getD_eq_getElem?_getD, er]; exact d1
      · intro H4 ys s4 eD dL
        have en : (List.range facts.length).map (fun i => wd (fwall ins (facts.getD i ("", "")))) = (facts.map (fwall ins)).map wd := by
          rw [map_at facts ("", "") (fun r => wd (fwall ins r)), List.map_map]; rfl
        rw [en] at dL
        have l1 := dv3.length
        have l2 := dL.length
        have lb : (List.map wd (List.flatMap (inKW ins) (List.range us.length))).length = 2 * us.length := by
          rw [List.length_map, List.length_flatMap]
          have : ∀ m : Nat, (List.map (fun a => (inKW ins a).length) (List.range m)).sum = 2 * m := fun m => by
            induction m with
            | zero => rfl
            | succ m ih => rw [List.range_succ, List.map_append, List.sum_append, ih]; simp [inKW, kwalls]; omega
          exact this _
        refine ⟨f, D, vs3, ys, rfl, rfl, s4 _ _ ev3, eD, szl (by simp at l2; omega), fun l nl => ?_⟩
        refine q l _ (s3.trans (s4.trans (same_new nl))) (noneBack nl (s3.trans s4)) ⟨_, upd_same, ?_⟩
        unfold inWalls
        rw [List.map_append, ← ln]
        exact DenL.append (dv3.mono (Same.ext (s4.trans (same_new nl)))) (dL.mono (Same.ext (same_new nl)))
theorem sc_ground_walls : FnScope ["program"] ["program"] (defScope (top 66)) := ⟨rfl, rfl, rfl, by decide +kernel, rfl, by decide +kernel, by decide +kernel⟩
def sp_ground_walls (K : PySem.W.Frag) : Sp := fun vs H Q _ => ∃ (v : V) (p : Pg), vs = [v] ∧ PgAt K H p v ∧ PgOk p ∧ ∀ l H', Same H H' → H l = none → LD K H' l ((inWalls p.ins p.facts).map wd) → Q (.ref l) H'
theorem ok_ground_walls (T : Tx K mg) : FnOk P w K mg base CX0 4 465 (fdA K 465) ["program"] (sp_ground_walls K) := by
  refine (f_ground_walls T).ok sc_ground_walls (fun vs H Q E h => ?_) (fun cdv A outer s H vs Q E hr h => ⟨_, PSs.nox (pss_one (ps_ret (pe_call (ok_input_walls T) (hr.mono (by decide)) (by rfl) (g_input_walls T) (f_input_walls T).kp (b_input_walls T) .nil pass0 (pa_cons (pe_ix (k_ixT K) (pv 0) pe_int (fun _ _ => rfl)) (pa_cons (pe_ix (k_ixT K) (pv 0) pe_int (fun _ _ => rfl)) pa_nil))))), ?_⟩)
  · obtain ⟨v, p, rfl, _⟩ := h; rfl
  · obtain ⟨v, p, rfl, ⟨a, x1, x2, x3, x4, rfl, hp⟩, ok, q⟩ := h
    refine ⟨_, rfl, a, _, _, _, rfl, rfl, hp.tup, rfl, _, rfl, a, _, _, _, rfl, rfl, hp.tup, rfl, ?_⟩
    exact ⟨x1, x2, p.ins, p.facts, rfl, hp.ins.den, hp.facts, by have := ok.ins.in2; omega, ok.facts, q⟩
end
end K28
end
section
set_option Elab.async false
set_option linter.all false
set_option maxRecDepth 100000
set_option maxHeartbeats 4000000
set_option exponentiation.threshold 2000
namespace K28
open PySem L2
/-! forms -/
abbrev FE := List (Str × List Int)
def feD (l : FE) : NL := l.map fun p => (p.1, wd p.2)
def getI (l : FE) (x : Str) : List Int := ((l.find? fun p => decide (p.1 = x)).map (·.2)).getD []
def stForm (l : FE) (s : Stm) : List Int := match s.op with
  | .times => timesF s.fac (getI l s.other)
  | .plus => sumF (getI l s.one) (getI l s.other) 1
  | .minus => sumF (getI l s.one) (getI l s.other) (-1)
def ins0 (ins : List (Str × Kd)) : FE := (List.range ins.length).map fun i => ((ins.getD i ("", ⟨true, 0⟩)).1, unitF ins.length i)
def envF (ins : List (Str × Kd)) (b : List Stm) : FE := b.foldl (fun l s => l ++ [(s.name, stForm l s)]) (ins0 ins)
theorem envF_snoc {ins : List (Str × Kd)} {b : List Stm} {i : Nat} {s : Stm} (e : b[i]? = some s) : envF ins (b.take (i + 1)) = envF ins (b.take i) ++ [(s.name, stForm (envF ins (b.take i)) s)] := by
  unfold envF
  rw [List.take_add_one, e, List.foldl_append]; rfl
theorem getL_feD {l : FE} {x : Str} (h : (getL (feD l) x).isSome = true) : getL (feD l) x = some (wd (getI l x)) := by
  unfold getI
  induction l with
  | nil => cases h
  | cons p l ih =>
    unfold feD at h ⊢
    rw [List.map_cons, getL_cons] at h ⊢
    rw [List.find?_cons]
    by_cases e : p.1 = x
    · simp [e]
    · simp only [e, if_false, decide_false] at h ⊢
      exact ih h
theorem isSome_iff {l : NL} {x : Str} : (getL l x).isSome = true ↔ x ∈ l.map (·.1) := by
  cases e : getL l x with
  | none =>
    rw [getL_none] at e
    constructor
    · intro h; cases h
    · intro h
      obtain ⟨p, hp, rfl⟩ := List.mem_map.mp h
      exact absurd rfl (e p hp)
  | some d =>
    constructor
    · intro _
      apply Classical.byContradiction
      intro no
      have : getL l x = none := getL_none.mpr fun p hp ex => no (List.mem_map.mpr ⟨p, hp, ex⟩)
      rw [this] at e; cases e
    · intro _; rfl
theorem names_feD (l : FE) : (feD l).map (·.1) = l.map (·.1) := by unfold feD; rw [List.map_map]; rfl
theorem names_ins0 (ins : List (Str × Kd)) : (ins0 ins).map (·.1) = ins.map (·.1) := by
  unfold ins0
  rw [List.map_map]
  exact map_at ins ("", ⟨true, 0⟩) (fun p => p.1)
theorem names_envF (ins : List (Str × Kd)) (b : List Stm) : (envF ins b).map (·.1) = ins.map (·.1) ++ b.map (·.name) := by
  unfold envF
  have : ∀ (b : List Stm) (l : FE), (b.foldl (fun l s => l ++ [(s.name, stForm l s)]) l).map (·.1) = l.map (·.1) ++ b.map (·.name) := by
    intro b
    induction b with
    | nil => intro l; simp
    | cons s b ih => intro l; rw [List.foldl_cons, ih]; simp
  rw [this, names_ins0]
theorem names_stL (ins : List (Str × Kd)) (b : List Stm) : (insL ins ++ stL b).map (·.1) = ins.map (·.1) ++ b.map (·.name) := by
  rw [List.map_append]
  unfold insL stL
  rw [List.map_map, List.map_map]; rfl
theorem known_iff {ins : List (Str × Kd)} {b : List Stm} {x : Str} : (getL (feD (envF ins b)) x).isSome = (getL (insL ins ++ stL b) x).isSome := by
  rw [Bool.eq_iff_iff, isSome_iff, isSome_iff, names_feD, names_envF, names_stL]
theorem unitF_len (n i : Nat) : (unitF n i).length = n := by unfold unitF; simp
theorem getI_len {l : FE} {n : Nat} (h : ∀ p ∈ l, p.2.length = n) {x : Str} (hx : x ∈ l.map (·.1)) : (getI l x).length = n := by
  unfold getI
  induction l with
  | nil => cases hx
  | cons p l ih =>
    rw [List.find?_cons]
    by_cases e : p.1 = x
    · simp only [e, decide_true, Option.map_some, Option.getD_some]
      exact h p (List.mem_cons_self ..)
    · simp only [e, decide_false]
      refine ih (fun q hq => h q (List.mem_cons_of_mem _ hq)) ?_
      rw [List.map_cons] at hx
      exact (List.mem_cons.mp hx).resolve_left fun z => e z.symm
/-- what a statement asks of the names ahead of it -/
def Uses (l : NL) (s : Stm) : Prop := (s.op = .times → -12 ≤ s.fac ∧ s.fac ≤ 12) ∧ (s.op ≠ .times → (getL l s.one).isSome = true) ∧ (getL l s.other).isSome = true
theorem uses_env {ins : List (Str × Kd)} {b : List Stm} {s : Stm} (h : okRight (insL ins ++ stL b) s) : Uses (feD (envF ins b)) s := by
  obtain ⟨h1, h2, h3⟩ := h
  exact ⟨h1, fun z => by rw [known_iff]; exact h2 z, by rw [known_iff]; exact h3⟩
theorem stForm_len {l : FE} {s : Stm} {n : Nat} (h : ∀ p ∈ l, p.2.length = n) (u : Uses (feD l) s) : (stForm l s).length = n := by
  obtain ⟨h1, h2, h3⟩ := u
  have l3 := getI_len h (x := s.other) (by rw [isSome_iff, names_feD] at h3; exact h3)
  unfold stForm
  cases e : s.op with
  | times => simp only [timesF, List.length_map]; exact l3
  | plus =>
    have h2' := h2 (by rw [e]; decide)
    have l2 := getI_len h (x := s.one) (by rw [isSome_iff, names_feD] at h2'; exact h2')
    simp only [sumF, List.length_zipWith]; omega
  | minus =>
    have h2' := h2 (by rw [e]; decide)
    have l2 := getI_len h (x := s.one) (by rw [isSome_iff, names_feD] at h2'; exact h2')
    simp only [sumF, List.length_zipWith]; omega
theorem ins0_len (ins : List (Str × Kd)) : ∀ p ∈ ins0 ins, p.2.length = ins.length := by
  intro p hp
  unfold ins0 at hp
  obtain ⟨i, _, rfl⟩ := List.mem_map.mp hp
  exact unitF_len _ _
theorem envF_len {ins : List (Str × Kd)} {b : List Stm} (ok : BodyOk (insL ins) b) : ∀ i, i ≤ b.length → ∀ p ∈ envF ins (b.take i), p.2.length = ins.length := by
  intro i
  induction i with
  | zero => intro _; exact ins0_len ins
  | succ i ih =>
    intro hi p hp
    have hi2 : i < b.length := hi
    rw [envF_snoc (List.getElem?_eq_getElem hi2)] at hp
    rcases List.mem_append.mp hp with h | h
    · exact ih (by omega) p h
    · rw [List.mem_singleton.mp h]
      exact stForm_len (ih (by omega)) (uses_env (ok i _ (List.getElem?_eq_getElem hi2)).right)
/-- the i-th entry, the entries of the first i -/
def formAt (ins : List (Str × Kd)) (b : List Stm) (i : Nat) : List Int := match b[i]? with
  | some s => stForm (envF ins (b.take i)) s
  | none => []
def kdAt (b : List Stm) (i : Nat) : Kd := match b[i]? with
  | some s => s.kd
  | none => ⟨true, 0⟩
def entD (ins : List (Str × Kd)) (b : List Stm) (i : Nat) : Dt := .t [.s "value", .i (i : Int), wd (formAt ins b i), (kdAt b i).d]
def entsD (ins : List (Str × Kd)) (b : List Stm) (i : Nat) : List Dt := (List.range i).map (entD ins b)
section
variable {P : Program} {w : World} {K : PySem.W.Frag} {mg : Str → Option Value} {base : Heap}
def StAt (K : PySem.W.Frag) (H : Hp) (v : V) (es : List Dt) (l : NL) : Prop := ∃ a le d, v = .ref a ∧ SqT K H a [.ref le, .ref d] ∧ LD K H le es ∧ DD K H d l
theorem StAt.same {H H' : Hp} {v : V} {es : List Dt} {l : NL} (h : StAt K H v es l) (s : Same H H') : StAt K H' v es l := by
  obtain ⟨a, le, d, e, h1, h2, h3⟩ := h
  exact ⟨a, le, d, e, Same.ext s _ _ h1, h2.same s, h3.same s⟩
theorem sc_with_value : FnScope ["state", "number", "statement", "form", "more", "entries", "forms"] ["state", "number", "statement", "form"] (defScope (top 68)) := ⟨rfl, rfl, rfl, by decide +kernel, rfl, by decide +kernel, by decide +kernel⟩
def sp_with_value (K : PySem.W.Frag) : Sp := fun vs H Q _ => ∃ (sv st fv : V) (n : Int) (p : Stm) (f : List Int) (es : List Dt) (l : NL), vs = [sv, .int n, st, fv] ∧ StAt K H sv es l ∧ Den K H p.d st ∧ Den K H (wd f) fv ∧ es.length ≤ 500 ∧ l.length ≤ 500 ∧
  ∀ v H', Same H H' → StAt K H' v (es ++ [.t [.s "value", .i n, wd f, p.kd.d]]) (putL l p.name (wd f)) → Q v H'
theorem ok_with_value (T : Tx K mg) : FnOk P w K mg base CX0 1 479 (fdA K 479) ["state", "number", "statement", "form"] (sp_with_value K) := by
  refine (f_with_value T).ok sc_with_value (fun vs H Q E h => ?_) (fun cdv A outer s H vs Q E hr h => ⟨_, PSs.nox (pss_cons (ps_asg (pv 0) (k_tgt K 2 rfl (pgs_cons (pg_name (i := 5) sc_with_value.nd rfl (.inl rfl) (hf := (.inl rfl))) (pgs_cons (pg_name (i := 6) sc_with_value.nd rfl (.inl rfl) (hf := (.inl rfl))) pgs_nil))))
  (pss_cons (ps_set (i := 4) sc_with_value.nd rfl (.inl rfl) (pe_callTy call_dictD (by rfl) (free_dict T) (by decide +kernel) (pa_cons (pv 6) pa_nil)))
  (pss_cons (ps_dput (hu_of hr) (pv 4) (pe_ix (k_ixT K) (pv 2) pe_int (fun _ _ => rfl)) (pv 3) rfl)
  (pss_one (ps_ret (pe_tup (pa_cons (pe_op op_cat (pv 5) (pe_lst (pa_cons (pe_tup (pa_cons pe_str (pa_cons (pv 1) (pa_cons (pv 3) (pa_cons (pe_ix (k_ixT K) (pv 2) pe_int (fun _ _ => rfl)) pa_nil))))) pa_nil))) (pa_cons (pv 4) pa_nil)))))))), ?_⟩)
  · obtain ⟨sv, st, fv, n, p, f, es, l, rfl, _⟩ := h; rfl
  · obtain ⟨sv, st, fv, n, p, f, es, l, rfl, ⟨a, le, d, rfl, aT, hle, hd⟩, hp, hf, hz1, hz2, q⟩ := h
    obtain ⟨ap, y, m, rfl, pT, hy, hm⟩ := st_den hp
    obtain ⟨k0, ek0, pk0⟩ := id hd
    refine ⟨_, rfl, g_pair aT ⟨_, rfl, d, k0, rfl, .inl ek0, fun c nc => ?_⟩⟩
    have s1 : Same H (upd H c (.dK k0)) := same_new nc
    obtain ⟨kv, hput, hc⟩ := (DD.copy pk0 nc).put (x := p.name) (d := wd f) (v := fv) (hf.mono (Same.ext s1)) (by omega)
    refine ⟨_, rfl, _, rfl, _, rfl, ap, _, _, _, rfl, rfl, Same.ext s1 _ _ pT, rfl, c, _, rfl, hput, ?_⟩
    have s2 : Same H (upd (upd H c (.dK k0)) c (.dK kv)) := same_upd s1 nc
    generalize upd (upd H c (.dK k0)) c (.dK kv) = H2 at s2 hc ⊢
    obtain ⟨vs2, e2, dv2⟩ := hle.same s2
    have lv := dv2.length
    refine ⟨_, rfl, _, rfl, _, rfl, _, rfl, ap, _, _, _, rfl, rfl, Same.ext s2 _ _ pT, rfl, szl (show 4 ≤ 1000000 by decide), fun t nt => ⟨szl (show 1 ≤ 1000000 by decide), fun p1 np1 => ?_⟩⟩
    have dt := den_new (K := K) (l := [.s "value", .i n, wd f, p.kd.d]) nt (denL_cons rfl (denL_cons rfl (denL_cons (hf.mono (Same.ext s2)) (denL_cons (hy.mono (Same.ext s2)) denL_nil))))
    have s3 := (same_new (o := .tup [.str "value", .int n, fv, y]) nt).trans (same_new (o := .lst [.ref t]) np1)
    refine ⟨le, p1, vs2, _, rfl, rfl, s3 _ _ e2, upd_same, szl (by simp; omega), fun l1 nl1 => ?_⟩
    have s4 := same_new (o := .lst (vs2 ++ [.ref t])) nl1
    refine ⟨_, rfl, szl (show 2 ≤ 1000000 by decide), fun t2 nt2 => ?_⟩
    have s5 := same_new (o := .tup [.ref l1, .ref c]) nt2
    refine q _ _ (s2.trans (s3.trans (s4.trans s5))) ⟨t2, l1, c, rfl, .inl (.inl upd_same), ⟨vs2 ++ [.ref t], s5 _ _ upd_same, ?_⟩, hc.same (s3.trans (s4.trans s5))⟩
    exact denL_snoc (dv2.mono (Same.ext (s3.trans (s4.trans s5)))) (dt.mono (Same.ext ((same_new np1).trans (s4.trans s5))))
theorem sc_given_states : FnScope ["state", "number", "statement", "many", "word", "forms"] ["state", "number", "statement"] (defScope (top 71)) := ⟨rfl, rfl, rfl, by decide +kernel, rfl, by decide +kernel, by decide +kernel⟩
def sp_given_states (K : PySem.W.Frag) : Sp := fun vs H Q _ => ∃ (sv st : V) (n : Int) (p : Stm) (es : List Dt) (l : FE), vs = [sv, .int n, st] ∧ StAt K H sv es (feD l) ∧ Den K H p.d st ∧ Uses (feD l) p ∧ es.length ≤ 500 ∧ l.length ≤ 500 ∧ (∀ q ∈ l, q.2.length ≤ 500) ∧
  ∀ v a H', Same H H' → H' a = some (.lst [v]) → StAt K H' v (es ++ [.t [.s "value", .i n, wd (stForm l p), p.kd.d]]) (putL (feD l) p.name (wd (stForm l p))) → Q (.ref a) H'
theorem getI_le {l : FE} {n : Nat} (h : ∀ p ∈ l, p.2.length ≤ n) (x : Str) : (getI l x).length ≤ n := by
  unfold getI
  cases e : l.find? fun p => decide (p.1 = x) with
  | none => exact Nat.zero_le _
  | some p => exact h p (List.mem_of_find?_eq_some e)
theorem ok_given_states (T : Tx K mg) : FnOk P w K mg base CX0 2 500 (fdA K 500) ["state", "number", "statement"] (sp_given_states K) := by
  refine (f_given_states T).ok sc_given_states (fun vs H Q E h => ?_) (fun cdv A outer s H vs Q E hr h => ⟨_, PSs.nox (pss_cons (ps_par (i := 4) (j := 5) rfl sc_given_states.nd rfl rfl (by decide) rfl rfl (pa_cons (pe_ix (k_ixT K) (pv 2) pe_int (fun _ _ => rfl)) (pa_cons (pe_ix (k_ixT K) (pv 0) pe_int (fun _ _ => rfl)) pa_nil)) (by rfl))
  (pss_cons (ps_if (pt_cmpR (k_inS K) (pv 4) (pe_tup (pa_cons pe_str (pa_cons pe_str pa_nil))) (by rfl)) pss_never pss_nil)
  (pss_cons (ps_if (pt_cmpR op_eq (pv 4) pe_str (nomark _)) (pss_one (ps_ret (pe_lst (pa_cons (pe_call (ok_with_value T) (hr.mono (by decide)) (by rfl) (g_with_value T) (f_with_value T).kp (b_with_value T) .nil pass0 (pa_cons (pv 0) (pa_cons (pv 1) (pa_cons (pv 2) (pa_cons (pe_call (ok_form_times T) (hr.mono (by decide)) (by rfl) (g_form_times T) (f_form_times T).kp (b_form_times T) .nil pass0 (pa_cons (pe_ix (k_ixT K) (pv 2) pe_int (fun _ _ => rfl)) (pa_cons (pe_dget (hu_of hr) (pv 5) (pe_ix (k_ixT K) (pv 2) pe_int (fun _ _ => rfl)) (fun _ _ => rfl)) pa_nil))) pa_nil))))) pa_nil)))) pss_nil)
  (pss_cons (ps_set (i := 3) sc_given_states.nd rfl (.inl rfl) (pe_ifExp (pt_cmpR op_eq (pv 4) pe_str (nomark _)) pe_int (pe_un un_neg pe_int)))
  (pss_one (ps_ret (pe_lst (pa_cons (pe_call (ok_with_value T) (hr.mono (by decide)) (by rfl) (g_with_value T) (f_with_value T).kp (b_with_value T) .nil pass0 (pa_cons (pv 0) (pa_cons (pv 1) (pa_cons (pv 2) (pa_cons (pe_call (ok_form_sum T) (hr.mono (by decide)) (by rfl) (g_form_sum T) (f_form_sum T).kp (b_form_sum T) .nil pass0 (pa_cons (pe_dget (hu_of hr) (pv 5) (pe_ix (k_ixT K) (pv 2) pe_int (fun _ _ => rfl)) (fun _ _ => rfl)) (pa_cons (pe_dget (hu_of hr) (pv 5) (pe_ix (k_ixT K) (pv 2) pe_int (fun _ _ => rfl)) (fun _ _ => rfl)) (pa_cons (pv 3) pa_nil)))) pa_nil))))) pa_nil)))))))), ?_⟩)
  · obtain ⟨sv, st, n, p, es, l, rfl, _⟩ := h; rfl
  · obtain ⟨sv, st, n, p, es, l, rfl, hs, hp, hu, hz1, hz2, hz3, q⟩ := h
    obtain ⟨a, le, d, rfl, aT, hle, hd⟩ := id hs
    obtain ⟨ap, y, m, rfl, pT, hy, hm⟩ := st_den hp
    have flen : (feD l).length = l.length := by unfold feD; simp
    refine ⟨_, rfl, ap, _, _, _, rfl, rfl, pT, rfl, _, rfl, a, _, _, _, rfl, rfl, aT, rfl, _, _, rfl, ?_⟩
    refine ⟨_, rfl, szl (show 2 ≤ 1000000 by decide), fun tt ntt => ?_⟩
    have s1 : Same H (upd H tt (.tup [.str "least", .str "greatest"])) := same_new ntt
    refine ⟨tt, _, rfl, .inr (.inl (.inl upd_same)), rfl, by decide, false, ?_, iteF ?_⟩
    · cases p.op <;> rfl
    have hs1 := hs.same s1
    have hd1 := hd.same s1
    have pT1 := Same.ext s1 _ _ pT
    have hp1 := hp.mono (Same.ext s1)
    generalize upd H tt (.tup [.str "least", .str "greatest"]) = H1 at s1 hs1 hd1 pT1 hp1 ⊢
    obtain ⟨vo, go, dvo⟩ := hd1.get (getL_feD hu.2.2)
    by_cases e : p.op = .times
    · obtain rfl := mid_int hm e
      have hf := hu.1 e
      refine ⟨_, rfl, rfl, true, by rw [e]; rfl, iteT ?_⟩
      refine ⟨_, rfl, _, rfl, _, rfl, _, rfl, ap, _, _, _, rfl, rfl, pT1, rfl, _, rfl, _, rfl, ap, _, _, _, rfl, rfl, pT1, rfl, d, vo, rfl, go, ?_⟩
      refine ⟨vo, p.fac, getI l p.other, rfl, dvo, by have := getI_le hz3 p.other; omega, by omega, by omega, fun fv H2 s2 df => ?_⟩
      refine ⟨_, _, fv, n, p, timesF p.fac (getI l p.other), es, feD l, rfl, hs1.same s2, hp1.mono (Same.ext s2), df, hz1, by omega, fun v H3 s3 hv => ?_⟩
      refine ⟨szl (show 1 ≤ 1000000 by decide), fun r nr => ?_⟩
      refine q v r _ (s1.trans (s2.trans (s3.trans (same_new nr)))) upd_same ?_
      have ef : stForm l p = timesF p.fac (getI l p.other) := by unfold stForm; rw [e]
      rw [ef]
      exact hv.same (same_new nr)
    · obtain rfl := mid_str hm e
      obtain ⟨v1, g1, dv1⟩ := hd1.get (getL_feD (hu.2.1 e))
      have fin : ∀ many : Int, (many = 1 ∨ many = -1) → stForm l p = sumF (getI l p.one) (getI l p.other) many → tRet (tLst (tCons (tCall (sp_with_value K) [] E0 (tCons (tVar 0) (tCons (tVar 1) (tCons (tVar 2) (tCons (tCall (sp_form_sum K) [] E0 (tCons (tDGet (tVar 5) (tOp (rIxT K) (tVar 2) (tC (.int 3)))) (tCons (tDGet (tVar 5) (tOp (rIxT K) (tVar 2) (tC (.int 4)))) (tCons (tVar 3) tNil)))) tNil))))) tNil)) { nx := fun _ H' => Q .non H', rt := Q }
          [some (.ref a), some (.int n), some (.ref ap), some (.int many), some (.str p.op.str), some (.ref d)] H1 := by
        intro many hmany ef
        refine ⟨_, rfl, _, rfl, _, rfl, _, rfl, _, rfl, ap, _, _, _, rfl, rfl, pT1, rfl, d, v1, rfl, g1, _, rfl, _, rfl, ap, _, _, _, rfl, rfl, pT1, rfl, d, vo, rfl, go, _, rfl, ?_⟩
        refine ⟨v1, vo, many, _, _, rfl, dv1, dvo, by have := getI_le hz3 p.one; omega, by omega, by omega, fun fv H2 s2 df => ?_⟩
        refine ⟨_, _, fv, n, p, _, es, feD l, rfl, hs1.same s2, hp1.mono (Same.ext s2), df, hz1, by omega, fun v H3 s3 hv => ?_⟩
        refine ⟨szl (show 1 ≤ 1000000 by decide), fun r nr => ?_⟩
        refine q v r _ (s1.trans (s2.trans (s3.trans (same_new nr)))) upd_same ?_
        rw [ef]
        exact hv.same (same_new nr)
      refine ⟨_, rfl, rfl, false, ?_, iteF ?_⟩
      · cases h : p.op with
        | times => exact absurd h e
        | plus => rfl
        | minus => rfl
      · cases h : p.op with
        | times => exact absurd h e
        | plus =>
          rw [h] at fin
          exact ⟨_, rfl, rfl, true, rfl, iteT (fin 1 (.inl rfl) (by unfold stForm; rw [h]))⟩
        | minus =>
          rw [h] at fin
          exact ⟨_, rfl, rfl, false, rfl, iteF ⟨_, rfl, fin (-1) (.inr rfl) (by unfold stForm; rw [h])⟩⟩
end
end K28
end
section
set_option Elab.async false
set_option linter.all false
set_option maxRecDepth 100000
set_option maxHeartbeats 4000000
set_option exponentiation.threshold 2000
namespace K28
open PySem L2
theorem entsD_snoc {ins : List (Str × Kd)} {b : List Stm} {i : Nat} {s : Stm} (e : b[i]? = some s) : entsD ins b (i + 1) = entsD ins b i ++ [.t [.s "value", .i (i : Int), wd (stForm (envF ins (b.take i)) s), s.kd.d]] := by
  unfold entsD
  rw [List.range_succ, List.map_append]
  congr 1
  show [entD ins b i] = _
  unfold entD formAt kdAt
  rw [e]
theorem feD_snoc {ins : List (Str × Kd)} {b : List Stm} {i : Nat} {s : Stm} (e : b[i]? = some s) (h : getL (insL ins ++ stL (b.take i)) s.name = none) :
    putL (feD (envF ins (b.take i))) s.name (wd (stForm (envF ins (b.take i)) s)) = feD (envF ins (b.take (i + 1))) := by
  have : getL (feD (envF ins (b.take i))) s.name = none := by
    have := known_iff (ins := ins) (b := b.take i) (x := s.name)
    rw [h] at this
    cases e2 : getL (feD (envF ins (b.take i))) s.name with
    | none => rfl
    | some d => rw [e2] at this; cases this
  rw [putL_new this, envF_snoc e]
  unfold feD
  rw [List.map_append]; rfl
theorem envF_count {ins : List (Str × Kd)} {b : List Stm} : (envF ins b).length = ins.length + b.length := by
  have := congrArg List.length (names_envF ins b)
  simpa using this
section
variable {P : Program} {w : World} {K : PySem.W.Frag} {mg : Str → Option Value} {base : Heap}
theorem stAt_upd {H : Hp} {v : V} {es : List Dt} {l : NL} {p : Addr} {L : List V} (h : StAt K H v es l) (hp : H p = some (.lst [])) (ne : es ≠ []) : StAt K (upd H p (.lst L)) v es l := by
  obtain ⟨a, le, d, e, h1, ⟨vs, h2, h3⟩, h4⟩ := h
  have x : ExT K H (upd H p (.lst L)) := ext_upd hp rfl
  have n1 : le ≠ p := fun z => by
    rw [z, hp] at h2
    have e2 : ([] : List V) = vs := by injection h2 with h2; injection h2
    rw [← e2] at h3
    have := h3.length
    exact ne (List.length_eq_zero_iff.mp this.symm)
  obtain ⟨kvs, h5, h6⟩ := h4
  have n2 : d ≠ p := fun z => by rw [z, hp] at h5; cases h5
  exact ⟨a, le, d, e, x _ _ h1, ⟨vs, by rw [upd_ne n1]; exact h2, DenL.mono x h3⟩, ⟨kvs, by rw [upd_ne n2]; exact h5, DR.mono x h6⟩⟩
theorem sc_statements_in : FnScope ["body", "row"] ["body"] (defScope (top 72)) := ⟨rfl, rfl, rfl, by decide +kernel, rfl, by decide +kernel, by decide +kernel⟩
def sp_statements_in (K : PySem.W.Frag) : Sp := fun vs H Q _ => ∃ (v : V) (b : List Stm), vs = [v] ∧ Den K H (bodyD b) v ∧ b.length ≤ 1000 ∧ ∀ H', Same H H' → Q (.int b.length) H'
theorem ok_statements_in (T : Tx K mg) : FnOk P w K mg base CX0 1 505 (fdA K 505) ["body"] (sp_statements_in K) := by
  refine (f_statements_in T).ok sc_statements_in (fun vs H Q E h => ?_) (fun cdv A outer s H vs Q E hr h => ⟨_, PSs.nox (pss_one (ps_ret (pe_callB (k_sum K rfl) (by rfl) (free_sum T) (by decide +kernel) (pa_cons (pe_lc (own := [("row", 1)]) rfl sc_statements_in.nd (k_pit K (pv 0)) (blkOk_by (N := ["body", "row"]) (sc := (defScope (top 72))) (by decide +kernel)) (fun _ _ _ _ _ => (pg_name (i := 1) sc_statements_in.nd rfl (.inl rfl) (hf := (.inr rfl)))) (fun _ _ _ _ _ => pts_nil) (fun _ _ _ _ _ => (pe_op op_add pe_int (pe_ifExp (pt_cmpR op_eq (pe_ix (k_ixT K) (pv 1) pe_int (fun _ _ => rfl)) pe_str (nomark _)) pe_never pe_int)))) pa_nil)))), ?_⟩)
  · obtain ⟨v, b, rfl, _⟩ := h; rfl
  · obtain ⟨v, b, rfl, ⟨a, us, rfl, aT, aL⟩, hz, q⟩ := h
    have ln := aL.length
    rw [List.length_map] at ln
    refine ⟨_, rfl, a, rfl, ⟨us, aT⟩, fun D nD => lc_fl (K := K) nD (n := b.length) (G := fun Hh => SqT K Hh a us) (Y := YAt us) (by rw [← ln]; exact walk_tup) (fun _ => 1) (by omega) (fun Hh s => Same.ext s _ _ aT) ?_ ?_⟩
    · rintro i x H1 H2 Q' hi s1 ⟨rfl, ex⟩ q'
      obtain ⟨p, ep, dp⟩ := map_at1 (DenL.mono (Same.ext s1) aL) ex
      obtain ⟨ap, y, m, rfl, pT, _, _⟩ := st_den dp
      refine ⟨rfl, _, rfl, ap, _, _, _, rfl, rfl, pT, rfl, rfl, false, ?_, iteF ⟨_, _, rfl, rfl, q' _ (Same.refl _)⟩⟩
      cases p.op <;> rfl
    · intro H1 s1 eD
      refine ⟨D, FI b.length (fun _ => 1), rfl, SqL.of eD, ?_⟩
      rw [sum_fi, sN_ones]
      exact q _ s1
theorem sc_states_behind : FnScope ["state", "number", "body", "found", "statement", "here", "one"] ["state", "number", "body"] (defScope (top 74)) := ⟨rfl, rfl, rfl, by decide +kernel, rfl, by decide +kernel, by decide +kernel⟩
def sp_states_behind (K : PySem.W.Frag) : Sp := fun vs H Q _ => ∃ (sv bv : V) (ins : List (Str × Kd)) (b : List Stm), vs = [sv, .int 0, bv] ∧ StAt K H sv [] (feD (ins0 ins)) ∧ Den K H (bodyD b) bv ∧ BodyOk (insL ins) b ∧ ins.length ≤ 100 ∧ b.length ≤ 100 ∧
  ∀ v l H', Same H H' → H' l = some (.lst [v]) → StAt K H' v (entsD ins b b.length) (feD (envF ins b)) → Q (.ref l) H'
theorem ok_states_behind (T : Tx K mg) : FnOk P w K mg base CX0 3 519 (fdA K 519) ["state", "number", "body"] (sp_states_behind K) := by
  refine (f_states_behind T).ok sc_states_behind (fun vs H Q E h => ?_) (fun cdv A outer s H vs Q E hr h => ⟨_, PSs.nox (pss_cons (ps_set (i := 3) sc_states_behind.nd rfl (.inl rfl) (pe_lst (pa_cons (pv 0) pa_nil)))
  (pss_cons (ps_for PassesOwn.never rfl (k_pit K (pv 2)) (pg_name (i := 4) sc_states_behind.nd rfl (.inl rfl) (hf := (.inl rfl)))
    (pss_cons (ps_set (i := 5) sc_states_behind.nd rfl (.inl rfl) (pe_lst pa_nil))
  (pss_cons (ps_for PassesOwn.never rfl (k_pil K (pv 3)) (pg_name (i := 6) sc_states_behind.nd rfl (.inl rfl) (hf := (.inl rfl)))
    (pss_cons (ps_if (pt_cmpR op_eq (pe_ix (k_ixT K) (pv 4) pe_int (fun _ _ => rfl)) pe_str (nomark _)) pss_never (pss_one (ps_expr (pe_bm PySem.F.plainAttrs_list PySem.F.slot_list_extend PySem.F.type_list_extend mt_extend (pv 5) (pa_cons (pe_call (ok_given_states T) (hr.mono (by decide)) (by rfl) (g_given_states T) (f_given_states T).kp (b_given_states T) .nil pass0 (pa_cons (pv 6) (pa_cons (pv 1) (pa_cons (pv 4) pa_nil)))) pa_nil)))))
  (pss_one (ps_if (pt_cmpR op_gt (pe_callB (k_len K) (by rfl) (free_len T) (by decide +kernel) (pa_cons (pv 5) pa_nil)) (pe_glob (v := .int _) (by rfl) (int_MOST_WAYS T).choose_spec ⟨_, rfl⟩) (nomark _)) (pss_one ps_never) pss_nil))))
  (pss_cons (ps_set (i := 3) sc_states_behind.nd rfl (.inl rfl) (pv 5))
  (pss_one (ps_aug (i := 1) sc_states_behind.nd rfl (.inl rfl) (pe_call (ok_statements_in T) (hr.mono (by decide)) (by rfl) (g_statements_in T) (f_statements_in T).kp (b_statements_in T) .nil pass0 (pa_cons (pe_tup (pa_cons (pv 4) pa_nil)) pa_nil)) ip_add))))))
  (pss_one (ps_ret (pv 3))))), ?_⟩)
  · obtain ⟨sv, bv, ins, b, rfl, _⟩ := h; rfl
  · obtain ⟨sv, bv, ins, b, rfl, hs, ⟨a, us, rfl, aT, aL⟩, ok, hz1, hz2, q⟩ := h
    have ln := aL.length
    rw [List.length_map] at ln
    refine ⟨_, rfl, szl (show 1 ≤ 1000000 by decide), fun f nf => ?_⟩
    refine ⟨_, rfl, a, rfl, ⟨us, Same.ext (same_new nf) _ _ aT⟩, ?_⟩
    refine for_it (walk_tup (K := K) (a := a) (xs := us)) (fun i σ H' => ∃ (v : V) (fl : Addr) (o4 o5 o6 : Option V), σ = [some sv, some (.int (i : Int)), some (.ref a), some (.ref fl), o4, o5, o6] ∧ Same H H' ∧ H' fl = some (.lst [v]) ∧ StAt K H' v (entsD ins b i) (feD (envF ins (b.take i))))
      ⟨sv, f, _, _, _, rfl, same_new nf, upd_same, hs.same (same_new nf)⟩ (fun i σ H' _ h => by obtain ⟨_, _, _, _, _, _, s1, _⟩ := h; exact Same.ext s1 _ _ aT) ?_ ?_
    · rintro i x σ H1 H2 hi ⟨v, fl, o4, o5, o6, rfl, s1, ef, hv⟩ ⟨rfl, ex⟩
      obtain ⟨p, ep, dp⟩ := map_at1 (DenL.mono (Same.ext s1) aL) ex
      have okp := ok i p ep
      have hi2 : i < b.length := (List.getElem?_eq_some_iff.mp ep).1
      obtain ⟨ap, y, m, rfl, pT, hy, hm⟩ := st_den dp
      refine ⟨szl (show 0 ≤ 1000000 by decide), fun hl nhl => ?_⟩
      have s2 := same_new (o := .lst []) nhl
      have ef2 := s2 _ _ ef
      refine ⟨_, rfl, fl, rfl, ⟨_, SqL.of ef2⟩, ?_⟩
      refine for_it (walk_list (K := K) (a := fl) (xs := [v])) (fun j σ H' => ∃ (o6 : Option V), σ = [some sv, some (.int (i : Int)), some (.ref a), some (.ref fl), some (.ref ap), some (.ref hl), o6] ∧ Same H2 H' ∧
          ((j = 0 ∧ H' hl = some (.lst [])) ∨ (j = 1 ∧ ∃ v', H' hl = some (.lst [v']) ∧ StAt K H' v' (entsD ins b (i + 1)) (feD (envF ins (b.take (i + 1)))))))
        ⟨_, rfl, s2, .inl ⟨rfl, upd_same⟩⟩ (fun j σ H' _ h => by obtain ⟨_, _, s3, _⟩ := h; exact SqL.of (s3 _ _ ef)) ?_ ?_
      · rintro j z σ H3 H4 hj ⟨o6', rfl, s3, hh⟩ ⟨rfl, ez⟩
        have hj0 : j = 0 := by simp at hj; omega
        subst hj0
        obtain rfl : v = z := Option.some.inj ez
        have eh : H4 hl = some (.lst []) := hh.elim (fun z => z.2) fun z => absurd z.1 (by decide)
        have hv3 := hv.same s3
        have dp3 := dp.mono (Same.ext s3)
        have pT3 := Same.ext s3 _ _ pT
        refine ⟨_, rfl, ap, _, _, _, rfl, rfl, pT3, rfl, rfl, false, ?_, iteF ?_⟩
        · cases p.op <;> rfl
        refine ⟨_, rfl, .inl ⟨rfl, _, SqL.of eh⟩, _, rfl, _, rfl, _, rfl, ?_⟩
        have el : (entsD ins b i).length = i := by unfold entsD; simp
        have tl : (b.take i).length = i := by rw [List.length_take]; omega
        refine ⟨v, _, (i : Int), p, entsD ins b i, envF ins (b.take i), rfl, hv3, dp3, uses_env okp.right, by omega, by rw [envF_count, tl]; omega, fun r hr => by rw [envF_len ok i (by omega) r hr]; omega, fun v' r H5 s5 er hv' => ?_⟩
        have eh5 := s5 _ _ eh
        rw [feD_snoc ep okp.new, ← entsD_snoc ep] at hv'
        refine ⟨hl, r, [], [v'], rfl, rfl, eh5, er, szl (show 1 ≤ 1000000 by decide), ?_⟩
        have hv6 : StAt K (upd H5 hl (.lst ([] ++ [v']))) v' (entsD ins b (i + 1)) (feD (envF ins (b.take (i + 1)))) := stAt_upd hv' eh5 (by unfold entsD; simp)
        have s6 : Same H2 (upd H5 hl (.lst ([] ++ [v']))) := same_upd (s3.trans s5) nhl
        have eh6 : upd H5 hl (.lst ([] ++ [v'])) hl = some (.lst [v']) := upd_same
        generalize upd H5 hl (.lst ([] ++ [v'])) = H6 at hv6 s6 eh6 ⊢
        refine ⟨_, rfl, hl, _, rfl, .inl (SqL.of eh6), _, _, rfl, rfl, false, rfl, iteF ?_⟩
        exact ⟨_, rfl, s6, .inr ⟨rfl, v', eh6, hv6⟩⟩
      · rintro σ H3 ⟨o6', rfl, s3, hh⟩
        obtain ⟨v', eh, hv'⟩ : ∃ v', H3 hl = some (.lst [v']) ∧ StAt K H3 v' (entsD ins b (i + 1)) (feD (envF ins (b.take (i + 1)))) := hh.elim (fun z => absurd z.1 (by simp)) fun z => z.2
        have dp3 := dp.mono (Same.ext s3)
        refine ⟨_, rfl, _, rfl, _, rfl, szl (show 1 ≤ 1000000 by decide), fun t nt => ?_⟩
        refine ⟨.ref t, [p], rfl, den_new nt (denL_one dp3), (show 1 ≤ 1000 by decide), fun H4 s4 => ?_⟩
        have s34 := (same_new (o := .tup [.ref ap]) nt).trans s4
        refine ⟨_, _, rfl, rfl, v', hl, _, _, _, rfl, s1.trans (s3.trans s34), s34 _ _ eh, hv'.same s34⟩
    · rintro σ H1 ⟨v, fl, o4, o5, o6, rfl, s1, ef, hv⟩
      rw [ln] at hv
      rw [List.take_length] at hv
      exact ⟨_, rfl, q v fl _ s1 ef hv⟩
end
end K28
end
section
set_option Elab.async false
set_option linter.all false
set_option maxRecDepth 100000
set_option maxHeartbeats 4000000
set_option exponentiation.threshold 2000
namespace K28
open PySem L2
theorem dc_it {J : It} {n : Nat} {G : Hp → Prop} {Y : Nat → Hp → V → Hp → Prop} (wk : Walk J n G Y) {g : TG} {tk tv : TE} {vs : List Nat} {σ : L2.St} {H1 : Hp} {D : Addr} {Qd : Hp → Prop} (Pv : Nat → Hp → Prop) (h0 : Pv 0 (upd H1 D (.dK []))) (hG : ∀ i H, i ≤ n → Pv i H → G H)
    (hs : ∀ i x H H', i < n → Pv i H → Y i H x H' → g x (wipe σ vs) H' fun σ2 H2 => wipe σ2 vs = wipe σ vs ∧ tk σ2 H2 fun y H4 => tv σ2 H4 fun z H5 => ∃ kvs k, y = kV k ∧ H5 D = some (.dK kvs) ∧ kvs.length < sizeLine ∧ Pv (i + 1) (upd H5 D (.dK (putK kvs k z))))
    (hd : ∀ H, Pv n H → Qd H) :
    ∃ W : Nat → Nat → Hp → Prop, (∃ m, W 0 m (upd H1 D (.dK []))) ∧ ∀ i m H, W i m H →
      (J.stop i H ∧ Qd H) ∨ (J.go i H ∧ ∃ Nx : Hp → Prop, (∀ H', Nx H' → ∃ m', m' < m ∧ W (i + 1) m' H') ∧ ∀ x H', J.yld i H x H' → g x (wipe σ vs) H' fun σ2 H2 => wipe σ2 vs = wipe σ vs ∧ tYes σ2 H2 fun b H3 =>
        if b = true then tk σ2 H3 fun y H4 => tv σ2 H4 fun z H5 => ∃ kvs k, y = kV k ∧ H5 D = some (.dK kvs) ∧ kvs.length < sizeLine ∧ Nx (upd H5 D (.dK (putK kvs k z))) else Nx H3) := by
  refine ⟨fun i m H => m = n - i ∧ i ≤ n ∧ Pv i H, ⟨n, by simp, Nat.zero_le _, h0⟩, ?_⟩
  rintro i m H ⟨rfl, hi, p⟩
  have q := hG i H hi p
  by_cases hlt : i < n
  · refine .inr ⟨wk.goes i H hlt q, Pv (i + 1), fun H' p' => ⟨n - (i + 1), by omega, rfl, hlt, p'⟩, fun x H' y => ?_⟩
    exact hs i x H H' hlt p (wk.yields i H x H' hlt q y)
  · have e : i = n := by omega
    subst e
    exact .inl ⟨wk.stops H q, hd H p⟩
def insT (ins : List (Str × Kd)) (i : Nat) : NL := (List.range i).map fun j => ((ins.getD j ("", ⟨true, 0⟩)).1, wd (unitF ins.length j))
theorem insT_all (ins : List (Str × Kd)) : insT ins ins.length = feD (ins0 ins) := by
  unfold insT feD ins0
  rw [List.map_map]; rfl
theorem insT_snoc {ins : List (Str × Kd)} (nd : (ins.map (·.1)).Nodup) {i : Nat} (hi : i < ins.length) : putL (insT ins i) (ins.getD i ("", ⟨true, 0⟩)).1 (wd (unitF ins.length i)) = insT ins (i + 1) := by
  have e : getL (insT ins i) (ins.getD i ("", ⟨true, 0⟩)).1 = none := by
    rw [getL_none]
    intro p hp ep
    unfold insT at hp
    obtain ⟨j, hj, rfl⟩ := List.mem_map.mp hp
    have hj := List.mem_range.mp hj
    have := List.pairwise_iff_getElem.mp nd j i (by simp; omega) (by simp; omega) hj
    rw [List.getElem_map, List.getElem_map] at this
    rw [getD_of hi, getD_of (by omega : j < ins.length)] at ep
    exact this ep
  rw [putL_new e]
  unfold insT
  rw [List.range_succ, List.map_append]; rfl
section
variable {P : Program} {w : World} {K : PySem.W.Frag} {mg : Str → Option Value} {base : Heap}
def WayAt (K : PySem.W.Frag) (H : Hp) (v : V) (es : List Dt) : Prop := ∃ a x y, v = .ref a ∧ SqT K H a [x, y] ∧ Den K H (.t es) x
theorem WayAt.mono {H H' : Hp} {v : V} {es : List Dt} (h : WayAt K H v es) (e : ExT K H H') : WayAt K H' v es := by
  obtain ⟨a, x, y, e1, h1, h2⟩ := h
  exact ⟨a, x, y, e1, e _ _ h1, h2.mono e⟩
theorem sc_ways_list : FnScope ["program", "forms", "found", "ins", "facts", "body", "outs", "at", "entries", "known", "name", "kind"] ["program"] (defScope (top 75)) := ⟨rfl, rfl, rfl, by decide +kernel, rfl, by decide +kernel, by decide +kernel⟩
def sp_ways_list (K : PySem.W.Frag) : Sp := fun vs H Q _ => ∃ (v : V) (p : Pg), vs = [v] ∧ PgAt K H p v ∧ PgOk p ∧ ∀ l y H', Same H H' → H' l = some (.lst [y]) → WayAt K H' y (entsD p.ins p.body p.body.length) → Q (.ref l) H'
theorem ok_ways_list (T : Tx K mg) : FnOk P w K mg base CX0 4 524 (fdA K 524) ["program"] (sp_ways_list K) := by
  refine (f_ways_list T).ok sc_ways_list (fun vs H Q E h => ?_) (fun cdv A outer s H vs Q E hr h => ⟨_, PSs.nox (pss_cons (ps_asg (pv 0) (k_tgt K 4 rfl (pgs_cons (pg_name (i := 3) sc_ways_list.nd rfl (.inr rfl) (hf := (.inl rfl))) (pgs_cons (pg_name (i := 4) sc_ways_list.nd rfl (.inl rfl) (hf := (.inl rfl))) (pgs_cons (pg_name (i := 5) sc_ways_list.nd rfl (.inl rfl) (hf := (.inl rfl))) (pgs_cons (pg_name (i := 6) sc_ways_list.nd rfl (.inr rfl) (hf := (.inl rfl))) pgs_nil))))))
  (pss_cons (ps_setDc (i := 1) (own := [("at", 7), ("name", 10), ("kind", 11)]) rfl sc_ways_list.nd rfl rfl (sw_trueD rfl rfl rfl (by decide +kernel)) (k_enum K false (by rfl) (free_enumerate T) (pa_cons (pv 3) pa_nil)) (blkOk_by (N := ["program", "forms", "found", "ins", "facts", "body", "outs", "at", "entries", "known", "name", "kind"]) (sc := (defScope (top 75))) (by decide +kernel)) (fun _ _ _ _ _ => (k_tgt K 2 rfl (pgs_cons (pg_name (i := 7) sc_ways_list.nd rfl (.inl rfl) (hf := (.inr rfl))) (pgs_cons (k_tgt K 2 rfl (pgs_cons (pg_name (i := 10) sc_ways_list.nd rfl (.inl rfl) (hf := (.inr rfl))) (pgs_cons (pg_name (i := 11) sc_ways_list.nd rfl (.inl rfl) (hf := (.inr rfl))) pgs_nil))) pgs_nil)))) (fun _ _ _ _ _ => pts_nil) (fun _ _ _ _ _ => (pv 10)) (fun _ _ _ _ _ => (pe_call (ok_unit_form T) (hr.mono (by decide)) (by rfl) (g_unit_form T) (f_unit_form T).kp (b_unit_form T) .nil pass0 (pa_cons (pe_callB (k_len K) (by rfl) (free_len T) (by decide +kernel) (pa_cons (pv 3) pa_nil)) (pa_cons (pv 7) pa_nil)))))
  (pss_cons (ps_set (i := 2) sc_ways_list.nd rfl (.inl rfl) (pe_call (ok_states_behind T) (hr.mono (by decide)) (by rfl) (g_states_behind T) (f_states_behind T).kp (b_states_behind T) .nil pass0 (pa_cons (pe_tup (pa_cons (pe_lst pa_nil) (pa_cons (pv 1) pa_nil))) (pa_cons pe_int (pa_cons (pv 5) pa_nil)))))
  (pss_one (ps_ret (pe_lc (own := [("entries", 8), ("known", 9)]) rfl sc_ways_list.nd (k_pil K (pv 2)) (blkOk_by (N := ["program", "forms", "found", "ins", "facts", "body", "outs", "at", "entries", "known", "name", "kind"]) (sc := (defScope (top 75))) (by decide +kernel)) (fun _ _ _ _ _ => (k_tgt K 2 rfl (pgs_cons (pg_name (i := 8) sc_ways_list.nd rfl (.inl rfl) (hf := (.inr rfl))) (pgs_cons (pg_name (i := 9) sc_ways_list.nd rfl (.inr rfl) (hf := (.inl rfl))) pgs_nil)))) (fun _ _ _ _ _ => pts_nil) (fun _ _ _ _ _ => (pe_tup (pa_cons (pe_callTy (k_tuple K) (by rfl) (free_tuple T) (by decide +kernel) (pa_cons (pv 8) pa_nil)) (pa_cons (pe_callTy (k_tuple K) (by rfl) (free_tuple T) (by decide +kernel) (pa_cons (pe_lc (own := [("name", 10)]) rfl sc_ways_list.nd (k_pit K (pv 6)) (blkOk_by (N := ["program", "forms", "found", "ins", "facts", "body", "outs", "at", "entries", "known", "name", "kind"]) (by kernel_rfl)) (fun _ _ _ _ _ => (pg_name (i := 10) sc_ways_list.nd rfl (.inl rfl) (hf := (.inr rfl)))) (fun _ _ _ _ _ => pts_nil) (fun _ _ _ _ _ => (pe_dget (hu_of hr) (pv 9) (pv 10) (fun _ _ => rfl)))) pa_nil)) pa_nil)))))))))), ?_⟩)
  · obtain ⟨v, p, rfl, _⟩ := h; rfl
  · obtain ⟨v, p, rfl, ⟨a, x1, x2, x3, x4, rfl, hp⟩, ok, q⟩ := h
    obtain ⟨ai, us, rfl, iT, iL⟩ := hp.ins.den
    obtain ⟨ao, os, rfl, oT, oL⟩ := hp.outs
    have lo := oL.length
    rw [List.length_map] at lo
    have ln := iL.length
    rw [List.length_map] at ln
    have i2 := ok.ins.in2
    have bl := ok.blen
    have o2 := ok.o2
    refine ⟨_, rfl, a, _, rfl, hp.tup, rfl, _, _, rfl, _, _, rfl, _, _, rfl, _, _, rfl, rfl, ?_⟩
    refine ⟨_, rfl, ai, us, rfl, iT, fun D nD => ?_⟩
    refine dc_it (walk_enumB (k := false) (K := K) (a := ai) (xs := us)) (fun i H' => Same H H' ∧ DD K H' D (insT p.ins i)) ⟨same_new nD, DD.new⟩ (fun i H' _ h => Same.ext h.1 _ _ iT) ?_ ?_
    · rintro i x H1 H2 hi ⟨s1, hd⟩ ⟨A', e1, e2, rfl, nA, rfl, ee, ef⟩
      cases (Option.some.inj ee)
      have ef2 : us[i]? = some e2 := ef
      have s2 : Same H (upd H1 A' (.tup [.int (i : Int), e2])) := s1.trans (same_new nA)
      have hd2 := hd.same (same_new (o := .tup [.int (i : Int), e2]) nA)
      have tA : SqT K (upd H1 A' (.tup [.int (i : Int), e2])) A' [.int (i : Int), e2] := .inl (.inl upd_same)
      generalize upd H1 A' (.tup [.int (i : Int), e2]) = H2 at s2 hd2 tA ⊢
      obtain ⟨r, er, dr⟩ := map_at1 (DenL.mono (Same.ext s2) iL) ef2
      obtain ⟨ar, y, rfl, rT, dy⟩ := in_den dr
      have hi2 : i < p.ins.length := (List.getElem?_eq_some_iff.mp er).1
      refine ⟨A', _, rfl, tA, rfl, _, _, rfl, _, _, rfl, ⟨ar, _, rfl, rT, rfl, _, _, rfl, _, _, rfl, rfl, rfl, ?_⟩⟩
      refine ⟨rfl, _, rfl, _, rfl, ai, us, rfl, .inr (Same.ext s2 _ _ iT), _, rfl, ?_⟩
      rw [ln]
      refine ⟨p.ins.length, i, rfl, by omega, fun v1 H5 s5 d1 => ?_⟩
      obtain ⟨kvs, ek, pk⟩ := hd2.same s5
      have lk := DR.len pk
      have li : (insT p.ins i).length = i := by unfold insT; simp
      refine ⟨kvs, .inr r.1, rfl, ek, szlt (by omega), same_upd (s2.trans s5) nD, _, upd_same, ?_⟩
      have en : r.1 = (p.ins.getD i ("", ⟨true, 0⟩)).1 := by rw [List.getD_eq_getElem?_getD, er]; rfl
      rw [← insT_snoc ok.ins.nd hi2, ← en]
      exact DR.mono (ext_upd ek rfl) (DR.put pk d1)
    · rintro H1 ⟨s1, hd⟩
      rw [ln, insT_all] at hd
      refine ⟨szl (show 0 ≤ 1000000 by decide), fun le nle => ⟨_, rfl, szl (show 2 ≤ 1000000 by decide), fun t nt => ?_⟩⟩
      have s2 := (same_new (o := .lst []) nle).trans (same_new (o := .tup [.ref le, .ref D]) nt)
      have s02 := s1.trans s2
      refine ⟨_, rfl, .ref t, _, p.ins, p.body, rfl, ⟨t, le, D, rfl, .inl (.inl upd_same), ⟨[], by rw [upd_ne (ne_of_none upd_same nt)]; exact upd_same, rfl⟩, hd.same s2⟩, hp.body.mono (Same.ext s02), ok.body, by omega, by omega, fun v l H3 s3 el hv => ?_⟩
      have s03 := s02.trans s3
      refine ⟨_, rfl, l, rfl, ⟨_, SqL.of el⟩, fun D2 nD2 => ?_⟩
      refine lc_it (walk_list (K := K) (a := l) (xs := [v])) (fun i H' => Same H3 H' ∧ ((i = 0 ∧ H' D2 = some (.lst [])) ∨ (i = 1 ∧ ∃ y, H' D2 = some (.lst [y]) ∧ WayAt K H' y (entsD p.ins p.body p.body.length)))) ⟨same_new nD2, .inl ⟨rfl, upd_same⟩⟩ (fun i H' _ h => SqL.of (h.1 _ _ el)) ?_ ?_
      · rintro i x H4 H5 hi ⟨s4, hh⟩ ⟨rfl, ex⟩
        have hi0 : i = 0 := by simp at hi; omega
        subst hi0
        obtain rfl : v = x := Option.some.inj ex
        have eh : H5 D2 = some (.lst []) := hh.elim (fun z => z.2) fun z => absurd z.1 (by decide)
        obtain ⟨av, lv, dv, rfl, vT, ⟨vs, evs, dvs⟩, hdv⟩ := hv.same s4
        refine g_pair vT ⟨rfl, _, rfl, lv, _, rfl, .inl ⟨SqL.of evs, fun c nc => ?_⟩⟩
        have s5 := same_new (o := .tup vs) nc
        have oT5 := Same.ext (s03.trans (s4.trans s5)) _ _ oT
        have oL5 := DenL.mono (Same.ext (s03.trans (s4.trans s5))) oL
        refine ⟨_, rfl, ao, rfl, ⟨_, oT5⟩, fun D3 nD3 => lc_map (K := K) nD3 (n := p.outs.length) (G := fun Hh => SqT K Hh ao os) (Y := YAt os) (by rw [← lo]; exact walk_tup) (fun i => wd (getI (envF p.ins p.body) (p.outs.getD i ""))) (by omega) (fun Hh s => Same.ext s _ _ oT5) ?_ ?_⟩
        · rintro j z H6 H7 Q' hj s6 ⟨rfl, ez⟩ q'
          obtain ⟨nm, en, dn⟩ := map_at1 (DenL.mono (Same.ext s6) oL5) ez
          obtain rfl : z = .str nm := dn
          have kn : (getL (feD (envF p.ins p.body)) nm).isSome = true := by rw [known_iff]; exact ok.o3 nm (List.mem_of_getElem? en)
          obtain ⟨vf, gf, dvf⟩ := (hdv.same (s5.trans s6)).get (getL_feD kn)
          refine ⟨rfl, _, rfl, _, rfl, dv, vf, rfl, gf, q' _ _ (Same.refl _) ?_⟩
          rw [List.getD_eq_getElem?_getD, en]; exact dvf
        · intro H6 ys s6 eD3 dL3
          refine ⟨D3, _, rfl, .inl ⟨SqL.of eD3, fun c2 nc2 => ⟨szl (show 2 ≤ 1000000 by decide), fun t2 nt2 => ?_⟩⟩⟩
          have s7 := (same_new (o := .tup ys) nc2).trans (same_new (o := .tup [.ref c, .ref c2]) nt2)
          have eh7 := (s5.trans (s6.trans s7)) _ _ eh
          refine ⟨[], eh7, szlt (by decide), same_upd (s4.trans (s5.trans (s6.trans s7))) nD2, .inr ⟨rfl, .ref t2, upd_same, ?_⟩⟩
          refine WayAt.mono ?_ (ext_upd eh7 rfl)
          refine ⟨t2, .ref c, .ref c2, rfl, .inl (.inl upd_same), ⟨c, vs, rfl, Same.ext (s6.trans s7) _ _ (.inl (.inl upd_same)), DenL.mono (Same.ext (s5.trans (s6.trans s7))) dvs⟩⟩
      · rintro H4 ⟨s4, hh⟩
        obtain ⟨y, ey, hy⟩ := hh.elim (fun z => absurd z.1 (by simp)) fun z => z.2
        exact q D2 y _ (s03.trans s4) ey hy
end
end K28
end
section
set_option Elab.async false
set_option linter.all false
set_option maxRecDepth 100000
set_option maxHeartbeats 4000000
set_option exponentiation.threshold 2000
namespace K28
open PySem L2
def vKW (p : Pg) (i : Nat) : List (List Int) := kwalls (formAt p.ins p.body i) (kdAt p.body i)
def vwalls (p : Pg) : List (List Int) := (List.range p.body.length).flatMap (vKW p)
def room (p : Pg) : List (List Int) := inWalls p.ins p.facts ++ vwalls p
theorem formAt_len {p : Pg} (ok : PgOk p) {i : Nat} (hi : i < p.body.length) : (formAt p.ins p.body i).length = p.ins.length := by
  have e := List.getElem?_eq_getElem hi
  unfold formAt
  rw [e]
  exact stForm_len (envF_len ok.body i (by omega)) (uses_env (ok.body i _ e).right)
theorem kw_sum {α : Type} (f : α → List Int) (k : α → Kd) : ∀ l : List α, (List.map (fun a => (kwalls (f a) (k a)).length) l).sum = 2 * l.length
  | [] => rfl
  | a :: l => by rw [List.map_cons, List.sum_cons, kw_sum f k l]; simp [kwalls]; omega
theorem inW_len {ins : List (Str × Kd)} {facts : List (Str × Str)} : (inWalls ins facts).length = 2 * ins.length + facts.length := by
  unfold inWalls
  rw [List.length_append, List.length_flatMap, List.length_map]
  unfold inKW
  rw [kw_sum, List.length_range]
theorem vw_len (p : Pg) (i : Nat) : ((List.range i).flatMap (vKW p)).length = 2 * i := by
  rw [List.length_flatMap]
  unfold vKW
  rw [kw_sum, List.length_range]
theorem ent_den {K : PySem.W.Frag} {H : Hp} {ins : List (Str × Kd)} {b : List Stm} {i : Nat} {v : V} (h : Den K H (entD ins b i) v) : ∃ a y z, v = .ref a ∧ SqT K H a [.str "value", .int (i : Int), y, z] ∧ Den K H (wd (formAt ins b i)) y ∧ Den K H (kdAt b i).d z := by
  obtain ⟨a, vs, e, hT, x1, r1, rfl, h1, x2, r2, rfl, h2, x3, r3, rfl, h3, x4, r4, rfl, h4, rfl⟩ := h
  rw [show x1 = V.str _ from h1, show x2 = V.int _ from h2] at hT
  exact ⟨a, x3, x4, e, hT, h3, h4⟩
section
variable {P : Program} {w : World} {K : PySem.W.Frag} {mg : Str → Option Value} {base : Heap}
theorem ents_at {H : Hp} {ins : List (Str × Kd)} {b : List Stm} {m i : Nat} {us : List V} {v : V} (h : DenL K H (entsD ins b m) us) (e : us[i]? = some v) : i < m ∧ Den K H (entD ins b i) v := by
  obtain ⟨j, ej, dj⟩ := map_at1 h e
  have hi : i < m := by
    have := (List.getElem?_eq_some_iff.mp ej).1
    simpa using this
  rw [List.getElem?_range hi] at ej
  rw [← Option.some.inj ej] at dj
  exact ⟨hi, dj⟩
theorem sc_room_ahead : FnScope ["program", "way", "at", "with_values", "entry", "walls", "stricts"] ["program", "way", "at", "with_values"] (defScope (top 76)) := ⟨rfl, rfl, rfl, by decide +kernel, rfl, by decide +kernel, by decide +kernel⟩
def sp_room_ahead (K : PySem.W.Frag) : Sp := fun vs H Q _ => ∃ (pv wv : V) (p : Pg), vs = [pv, wv, .int (p.body.length : Int), .bl true] ∧ PgAt K H p pv ∧ PgOk p ∧ WayAt K H wv (entsD p.ins p.body p.body.length) ∧
  ∀ t H', Same H H' → Den K H' (.t [rowsD (room p), .t []]) t → Q t H'
theorem ok_room_ahead (T : Tx K mg) : FnOk P w K mg base CX0 5 531 (fdA K 531) ["program", "way", "at", "with_values"] (sp_room_ahead K) := by
  refine (f_room_ahead T).ok sc_room_ahead (fun vs H Q E h => ?_) (fun cdv A outer s H vs Q E hr h => ⟨_, PSs.nox (pss_cons (ps_par (i := 5) (j := 6) rfl sc_room_ahead.nd rfl rfl (by decide) rfl rfl (pa_cons (pe_call (ok_ground_walls T) (hr.mono (by decide)) (by rfl) (g_ground_walls T) (f_ground_walls T).kp (b_ground_walls T) .nil pass0 (pa_cons (pv 0) pa_nil)) (pa_cons (pe_lst pa_nil) pa_nil)) (by rfl))
  (pss_cons (ps_for PassesOwn.never rfl (k_pit K (pe_slice (k_slT K) (pe_ix (k_ixT K) (pv 1) pe_int (fun _ _ => rfl)) po_none (po_some (pv 2)))) (pg_name (i := 4) sc_room_ahead.nd rfl (.inl rfl) (hf := (.inl rfl)))
    (pss_one (ps_if (pt_cmpR op_eq (pe_ix (k_ixT K) (pv 4) pe_int (fun _ _ => rfl)) pe_str (nomark _)) (pss_one (ps_expr (pe_bm PySem.F.plainAttrs_list PySem.F.slot_list_extend PySem.F.type_list_extend mt_extend (pv 5) (pa_cons (pe_ifExp (pt_val (pv 3)) (pe_call (ok_kind_walls T) (hr.mono (by decide)) (by rfl) (g_kind_walls T) (f_kind_walls T).kp (b_kind_walls T) .nil pass0 (pa_cons (pe_ix (k_ixT K) (pv 4) pe_int (fun _ _ => rfl)) (pa_cons (pe_ix (k_ixT K) (pv 4) pe_int (fun _ _ => rfl)) pa_nil))) (pe_lst pa_nil)) pa_nil)))) (pss_one (ps_if (pt_val (pe_ix (k_ixT K) (pv 4) pe_int (fun _ _ => rfl))) pss_never (pss_one (ps_expr (pe_bm PySem.F.plainAttrs_list PySem.F.slot_list_append PySem.F.type_list_append mt_append (pv 5) (pa_cons (pe_ix (k_ixT K) (pv 4) pe_int (fun _ _ => rfl)) pa_nil)))))))))
  (pss_one (ps_ret (pe_tup (pa_cons (pe_callTy (k_tuple K) (by rfl) (free_tuple T) (by decide +kernel) (pa_cons (pv 5) pa_nil)) (pa_cons (pe_callTy (k_tuple K) (by rfl) (free_tuple T) (by decide +kernel) (pa_cons (pv 6) pa_nil)) pa_nil))))))), ?_⟩)
  · obtain ⟨pv, wv, p, rfl, _⟩ := h; rfl
  · obtain ⟨pv, wv, p, rfl, hp, ok, ⟨aw, wx, wy, rfl, wT, ⟨ae, us, rfl, eT, eL⟩⟩, q⟩ := h
    have le := eL.length
    unfold entsD at le
    rw [List.length_map, List.length_range] at le
    have i2 := ok.ins.in2
    have bl := ok.blen
    have fl := ok.facts.f1
    refine ⟨_, rfl, pv, p, rfl, hp, ok, fun wl H1 s1 nwl hw => ⟨szl (show 0 ≤ 1000000 by decide), fun st nst => ⟨_, _, rfl, ?_⟩⟩⟩
    have s2 := s1.trans (same_new (o := .lst []) nst)
    have hw2 := hw.same (same_new (o := .lst []) nst)
    have est : upd H1 st (.lst []) st = some (.lst []) := upd_same
    have newl : wl ≠ st := by
      obtain ⟨vs, ev, _⟩ := hw
      exact ne_of_none ev nst
    generalize upd H1 st (.lst []) = H2 at s2 hw2 est ⊢
    refine ⟨_, rfl, aw, _, _, _, rfl, rfl, Same.ext s2 _ _ wT, rfl, _, rfl, _, rfl, use_sl (Same.ext s2 _ _ eT) fun c H3 s3 hc => ?_⟩
    rw [← le, cut_take (Nat.le_refl _), List.take_length] at hc
    have s03 := s2.trans s3
    refine ⟨c, rfl, ⟨_, hc⟩, ?_⟩
    refine for_it (walk_tup (K := K) (a := c) (xs := us)) (fun i σ H' => (∃ o4, σ = [some pv, some (.ref aw), some (.int (p.body.length : Int)), some (.bl true), o4, some (.ref wl), some (.ref st)]) ∧ Same H H' ∧ SqT K H' c us ∧ H' st = some (.lst []) ∧ LD K H' wl ((inWalls p.ins p.facts ++ (List.range i).flatMap (vKW p)).map wd))
      ⟨⟨_, rfl⟩, s03, hc, s3 _ _ est, by rw [show (List.range 0).flatMap (vKW p) = [] from rfl, List.append_nil]; exact hw2.same s3⟩ (fun i σ H' _ h => h.2.2.1) ?_ ?_
    · rintro i x σ H4 H5 hi ⟨⟨o4, rfl⟩, s4, cT, est4, vs4, ev4, dv4⟩ ⟨rfl, ex⟩
      obtain ⟨hi2, de⟩ := ents_at (DenL.mono (Same.ext s4) eL) ex
      obtain ⟨a, y, z, rfl, aT, dy, dz⟩ := ent_den de
      refine ⟨_, rfl, a, _, _, _, rfl, rfl, aT, rfl, rfl, true, rfl, iteT ?_⟩
      refine ⟨_, rfl, .inl ⟨rfl, _, SqL.of ev4⟩, _, rfl, true, rfl, iteT ?_⟩
      refine ⟨_, rfl, a, _, _, _, rfl, rfl, aT, rfl, _, rfl, a, _, _, _, rfl, rfl, aT, rfl, ?_⟩
      refine ⟨y, z, _, _, rfl, dy, dz, by rw [formAt_len ok hi2]; omega, fun l H6 s6 ⟨ws, ew, dw⟩ => ?_⟩
      have ev6 := s6 _ _ ev4
      have lv := dv4.length
      have lw := dw.length
      rw [List.length_map, List.length_append, inW_len, vw_len] at lv
      refine ⟨wl, l, vs4, ws, rfl, rfl, ev6, ew, szl (by simp [kwalls] at lw; omega), ⟨_, rfl⟩, same_upd (s4.trans s6) nwl, ?_, ?_, _, upd_same, ?_⟩
      · exact ext_upd ev6 rfl _ _ (Same.ext s6 _ _ cT)
      · rw [upd_ne (fun z => newl z.symm)]; exact s6 _ _ est4
      · have xt : ExT K H6 (upd H6 wl (.lst (vs4 ++ ws))) := ext_upd ev6 rfl
        rw [List.range_succ, List.flatMap_append, ← List.append_assoc, List.map_append]
        refine DenL.append ((dv4.mono (Same.ext s6)).mono xt) (DenL.mono xt ?_)
        rw [List.flatMap_singleton]; exact dw
    · rintro σ H4 ⟨⟨o4, rfl⟩, s4, cT, est4, vs4, ev4, dv4⟩
      rw [le] at dv4
      refine ⟨_, rfl, wl, _, rfl, .inl ⟨SqL.of ev4, fun t1 nt1 => ?_⟩⟩
      refine ⟨_, rfl, st, _, rfl, .inl ⟨SqL.of ((same_new nt1) _ _ est4), fun t2 nt2 => ⟨szl (show 2 ≤ 1000000 by decide), fun t nt => ?_⟩⟩⟩
      have s5 := (same_new (o := .tup vs4) nt1).trans (same_new (o := .tup []) nt2)
      refine q _ _ (s4.trans (s5.trans (same_new nt))) (den_new nt (denL_cons ⟨t1, vs4, rfl, Same.ext (same_new nt2) _ _ (.inl (.inl upd_same)), dv4.mono (Same.ext s5)⟩ (denL_cons ⟨t2, [], rfl, .inl (.inl upd_same), rfl⟩ denL_nil)))
theorem sc_whole_room : FnScope ["program", "way"] ["program", "way"] (defScope (top 77)) := ⟨rfl, rfl, rfl, by decide +kernel, rfl, by decide +kernel, by decide +kernel⟩
def sp_whole_room (K : PySem.W.Frag) : Sp := fun vs H Q _ => ∃ (pv wv : V) (p : Pg), vs = [pv, wv] ∧ PgAt K H p pv ∧ PgOk p ∧ WayAt K H wv (entsD p.ins p.body p.body.length) ∧
  ∀ t H', Same H H' → Den K H' (.t [rowsD (room p), .t []]) t → Q t H'
theorem ok_whole_room (T : Tx K mg) : FnOk P w K mg base CX0 6 538 (fdA K 538) ["program", "way"] (sp_whole_room K) := by
  refine (f_whole_room T).ok sc_whole_room (fun vs H Q E h => ?_) (fun cdv A outer s H vs Q E hr h => ⟨_, PSs.nox (pss_one (ps_ret (pe_call (ok_room_ahead T) (hr.mono (by decide)) (by rfl) (g_room_ahead T) (f_room_ahead T).kp (b_room_ahead T) .nil pass0 (pa_cons (pv 0) (pa_cons (pv 1) (pa_cons (pe_callB (k_len K) (by rfl) (free_len T) (by decide +kernel) (pa_cons (pe_ix (k_ixT K) (pv 1) pe_int (fun _ _ => rfl)) pa_nil)) (pa_cons pe_bl pa_nil))))))), ?_⟩)
  · obtain ⟨pv, wv, p, rfl, _⟩ := h; rfl
  · obtain ⟨pv, wv, p, rfl, hp, ok, hw, q⟩ := h
    obtain ⟨aw, wx, wy, rfl, wT, ⟨ae, us, rfl, eT, eL⟩⟩ := id hw
    have le := eL.length
    unfold entsD at le
    rw [List.length_map, List.length_range] at le
    refine ⟨_, rfl, _, rfl, _, rfl, aw, _, _, _, rfl, rfl, wT, rfl, ae, us, rfl, .inr eT, ?_⟩
    rw [le]
    exact ⟨pv, .ref aw, p, rfl, hp, ok, hw, q⟩
theorem sc_is_single_value : FnScope ["program", "statement"] ["program"] (defScope (top 80)) := ⟨rfl, rfl, rfl, by decide +kernel, rfl, by decide +kernel, by decide +kernel⟩
def sp_is_single_value (K : PySem.W.Frag) : Sp := fun vs H Q _ => ∃ (pv : V) (p : Pg), vs = [pv] ∧ PgAt K H p pv ∧ PgOk p ∧ ∀ H', Same H H' → Q (.bl true) H'
theorem ok_is_single_value (T : Tx K mg) : FnOk P w K mg base CX0 1 544 (fdA K 544) ["program"] (sp_is_single_value K) := by
  refine (f_is_single_value T).ok sc_is_single_value (fun vs H Q E h => ?_) (fun cdv A outer s H vs Q E hr h => ⟨_, PSs.nox (pss_one (ps_ret (pe_callB (k_all K rfl) (by rfl) (free_all T) (by decide +kernel) (pa_cons (pe_lc (own := [("statement", 1)]) rfl sc_is_single_value.nd (k_pit K (pe_ix (k_ixT K) (pv 0) pe_int (fun _ _ => rfl))) (blkOk_by (N := ["program", "statement"]) (sc := (defScope (top 80))) (by decide +kernel)) (fun _ _ _ _ _ => (pg_name (i := 1) sc_is_single_value.nd rfl (.inl rfl) (hf := (.inr rfl)))) (fun _ _ _ _ _ => pts_nil) (fun _ _ _ _ _ => (pe_cmpR (k_inS K) (pe_ix (k_ixT K) (pv 1) pe_int (fun _ _ => rfl)) (pe_glob (v := .ref _) (by rfl) (g_LINES T) rfl) (by rfl)))) pa_nil)))), ?_⟩)
  · obtain ⟨pv, p, rfl, _⟩ := h; rfl
  · obtain ⟨pv, p, rfl, ⟨a, x1, x2, x3, x4, rfl, hp⟩, ok, q⟩ := h
    obtain ⟨ab, us, rfl, bT, bL⟩ := hp.body
    have ln := bL.length
    rw [List.length_map] at ln
    have bl := ok.blen
    refine ⟨_, rfl, a, _, _, _, rfl, rfl, hp.tup, rfl, ab, rfl, ⟨us, bT⟩, fun D nD => lc_true (K := K) nD (walk_tup (K := K) (a := ab) (xs := us)) (by omega) (fun Hh s => Same.ext s _ _ bT) ?_ ?_⟩
    · rintro i x H1 H2 Q' hi s1 ⟨rfl, ex⟩ q'
      obtain ⟨st, est, dst⟩ := map_at1 (DenL.mono (Same.ext s1) bL) ex
      obtain ⟨ap, y, m, rfl, pT, _, _⟩ := st_den dst
      refine ⟨rfl, _, rfl, ap, _, _, _, rfl, rfl, pT, rfl, _, _, rfl, .inr (T.tup_LINES _), rfl, by decide +kernel, ?_⟩
      have e : inV (.str st.op.str) ((["plus", "minus", "times"] : List Str).map V.str) = true := by
        rw [inV_strs]
        cases st.op <;> rfl
      have e2 := q' _ (Same.refl _)
      rw [← e] at e2
      exact e2
    · intro H1 bs s1 eD hb
      refine ⟨D, bs, rfl, SqL.of eD, ?_⟩
      rw [hb]
      exact q _ s1
theorem sc_value_walls : FnScope ["program", "found", "entry"] ["program"] (defScope (top 82)) := ⟨rfl, rfl, rfl, by decide +kernel, rfl, by decide +kernel, by decide +kernel⟩
def sp_value_walls (K : PySem.W.Frag) : Sp := fun vs H Q _ => ∃ (pv : V) (p : Pg), vs = [pv] ∧ PgAt K H p pv ∧ PgOk p ∧ ∀ l H', Same H H' → H l = none → LD K H' l ((vwalls p).map wd) → Q (.ref l) H'
theorem ok_value_walls (T : Tx K mg) : FnOk P w K mg base CX0 5 558 (fdA K 558) ["program"] (sp_value_walls K) := by
  refine (f_value_walls T).ok sc_value_walls (fun vs H Q E h => ?_) (fun cdv A outer s H vs Q E hr h => ⟨_, PSs.nox (pss_cons (ps_set (i := 1) sc_value_walls.nd rfl (.inl rfl) (pe_lst pa_nil))
  (pss_cons (ps_for PassesOwn.never rfl (k_pit K (pe_ix (k_ixT K) (pe_ix (k_ixL K) (pe_call (ok_ways_list T) (hr.mono (by decide)) (by rfl) (g_ways_list T) (f_ways_list T).kp (b_ways_list T) .nil pass0 (pa_cons (pv 0) pa_nil)) pe_int (fun _ _ => rfl)) pe_int (fun _ _ => rfl))) (pg_name (i := 2) sc_value_walls.nd rfl (.inl rfl) (hf := (.inl rfl)))
    (pss_one (ps_expr (pe_bm PySem.F.plainAttrs_list PySem.F.slot_list_extend PySem.F.type_list_extend mt_extend (pv 1) (pa_cons (pe_call (ok_kind_walls T) (hr.mono (by decide)) (by rfl) (g_kind_walls T) (f_kind_walls T).kp (b_kind_walls T) .nil pass0 (pa_cons (pe_ix (k_ixT K) (pv 2) pe_int (fun _ _ => rfl)) (pa_cons (pe_ix (k_ixT K) (pv 2) pe_int (fun _ _ => rfl)) pa_nil))) pa_nil)))))
  (pss_one (ps_ret (pv 1))))), ?_⟩)
  · obtain ⟨pv, p, rfl, _⟩ := h; rfl
  · obtain ⟨pv, p, rfl, hp, ok, q⟩ := h
    have bl := ok.blen
    have i2 := ok.ins.in2
    refine ⟨szl (show 0 ≤ 1000000 by decide), fun f nf => ?_⟩
    refine ⟨_, rfl, pv, p, rfl, hp.same (same_new nf), ok, fun l y H1 s1 el hw => ?_⟩
    obtain ⟨aw, wx, wy, rfl, wT, ⟨ae, us, rfl, eT, eL⟩⟩ := hw
    have le := eL.length
    unfold entsD at le
    rw [List.length_map, List.length_range] at le
    have s01 := (same_new (o := .lst []) nf).trans s1
    have ef : H1 f = some (.lst []) := s1 _ _ upd_same
    refine ⟨l, _, _, _, rfl, rfl, SqL.of el, rfl, aw, _, _, _, rfl, rfl, wT, rfl, ae, rfl, ⟨us, eT⟩, ?_⟩
    refine for_it (walk_tup (K := K) (a := ae) (xs := us)) (fun i σ H' => (∃ o2, σ = [some pv, some (.ref f), o2]) ∧ Same H H' ∧ ExT K H1 H' ∧ LD K H' f (((List.range i).flatMap (vKW p)).map wd))
      ⟨⟨_, rfl⟩, s01, ExT.refl _, [], ef, rfl⟩ (fun i σ H' _ h => h.2.2.1 _ _ eT) ?_ ?_
    · rintro i x σ H4 H5 hi ⟨⟨o4, rfl⟩, s4, x4, vs4, ev4, dv4⟩ ⟨rfl, ex⟩
      obtain ⟨hi2, de⟩ := ents_at (DenL.mono x4 eL) ex
      obtain ⟨a, y, z, rfl, aT, dy, dz⟩ := ent_den de
      refine ⟨_, rfl, .inl ⟨rfl, _, SqL.of ev4⟩, _, rfl, a, _, _, _, rfl, rfl, aT, rfl, _, rfl, a, _, _, _, rfl, rfl, aT, rfl, ?_⟩
      refine ⟨y, z, _, _, rfl, dy, dz, by rw [formAt_len ok hi2]; omega, fun l H6 s6 ⟨ws, ew, dw⟩ => ?_⟩
      have ev6 := s6 _ _ ev4
      have lv := dv4.length
      have lw := dw.length
      rw [List.length_map, vw_len] at lv
      have xt : ExT K H6 (upd H6 f (.lst (vs4 ++ ws))) := ext_upd ev6 rfl
      refine ⟨f, l, vs4, ws, rfl, rfl, ev6, ew, szl (by simp [kwalls] at lw; omega), ⟨_, rfl⟩, same_upd (s4.trans s6) nf, x4.trans ((Same.ext s6).trans xt), _, upd_same, ?_⟩
      rw [List.range_succ, List.flatMap_append, List.map_append]
      refine DenL.append ((dv4.mono (Same.ext s6)).mono xt) (DenL.mono xt ?_)
      rw [List.flatMap_singleton]; exact dw
    · rintro σ H4 ⟨⟨o4, rfl⟩, s4, x4, hl⟩
      rw [le] at hl
      exact ⟨_, rfl, q f _ s4 nf hl⟩
end
end K28
end
section
set_option Elab.async false
set_option linter.all false
set_option maxRecDepth 100000
set_option maxHeartbeats 4000000
set_option exponentiation.threshold 2000
namespace K28
open PySem L2
theorem okName_str {x : Str} (h : okName x = true) : PyData.strOk x = true := by
  unfold okName at h
  rw [Bool.and_eq_true] at h
  have h3 := h.2
  unfold PyData.strOk
  have l : letters.cps.toList.all (fun c => decide (c < 0x110000)) = true := by decide +kernel
  rw [← Array.all_toList, List.all_eq_true]
  intro c hc
  have := List.all_eq_true.mp h3 c hc
  rw [List.contains_iff_mem] at this
  exact List.all_eq_true.mp l c this
theorem pg_fit {p : Pg} (ok : PgOk p) : (Dt.t [.t (p.ins.map inD), .t (p.facts.map ftD)]).fit 60 = true := by
  have h1 : ∀ q ∈ p.ins, PyData.strOk q.1 = true := fun q hq => okName_str (ok.ins.nm q hq).1
  have hn : ∀ x ∈ p.ins.map (·.1), PyData.strOk x = true := fun x hx => by
    obtain ⟨q, hq, rfl⟩ := List.mem_map.mp hx
    exact h1 q hq
  refine fit_mono 5 60 _ (by decide) ?_
  have e1 : (Dt.t (p.ins.map inD)).fit 4 = true := by
    simp only [Dt.fit, List.all_eq_true]
    intro d hd
    obtain ⟨q, hq, rfl⟩ := List.mem_map.mp hd
    have hk : q.2.d.fit 2 = true := by
      have h1 : PyData.strOk "both" = true := by decide +kernel
      have h2 : PyData.strOk "up" = true := by decide +kernel
      unfold Kd.d
      simp only [Dt.fit, List.all_cons, List.all_nil, Bool.and_true]
      cases q.2.both
      · exact h2
      · exact h1
    have e : (inD q).fit 3 = ((Dt.s q.1).fit 2 && (q.2.d.fit 2 && true)) := rfl
    rw [e, hk, show (Dt.s q.1).fit 2 = true from h1 q hq]; rfl
  have e2 : (Dt.t (p.facts.map ftD)).fit 4 = true := by
    simp only [Dt.fit, List.all_eq_true]
    intro d hd
    obtain ⟨q, hq, rfl⟩ := List.mem_map.mp hd
    have f2 := ok.facts.f2 q hq
    have e : (ftD q).fit 3 = ((Dt.s q.1).fit 2 && ((Dt.s q.2).fit 2 && true)) := rfl
    rw [e, show (Dt.s q.1).fit 2 = true from hn _ f2.1, show (Dt.s q.2).fit 2 = true from hn _ f2.2.1]; rfl
  have e : (Dt.t [.t (p.ins.map inD), .t (p.facts.map ftD)]).fit 5 = ((Dt.t (p.ins.map inD)).fit 4 && ((Dt.t (p.facts.map ftD)).fit 4 && true)) := rfl
  rw [e, e1, e2]; rfl
section
variable {P : Program} {w : World} {K : PySem.W.Frag} {mg : Str → Option Value} {base : Heap}
theorem sc_need_two : FnScope ["one", "other", "thing"] ["one", "other"] (defScope (top 81)) := ⟨rfl, rfl, rfl, by decide +kernel, rfl, by decide +kernel, by decide +kernel⟩
def sp_need_two (K : PySem.W.Frag) : Sp := fun vs H Q _ => ∃ (u v : V) (p r : Pg), vs = [u, v] ∧ PgAt K H p u ∧ PgAt K H r v ∧ PgOk p ∧ PgOk r ∧ r.ins = p.ins ∧ r.facts = p.facts ∧ ∀ H', Same H H' → Q .non H'
theorem ok_need_two (T : Tx K mg) : FnOk P w K mg base CX0 8 551 (fdA K 551) ["one", "other"] (sp_need_two K) := by
  refine (f_need_two T).ok sc_need_two (fun vs H Q E h => ?_) (fun cdv A outer s H vs Q E hr h => ⟨_, PSs.nox (pss_cons (ps_for PassesOwn.never rfl (k_pit K (pe_tup (pa_cons (pv 0) (pa_cons (pv 1) pa_nil)))) (pg_name (i := 2) sc_need_two.nd rfl (.inl rfl) (hf := (.inl rfl)))
    (pss_one (ps_if (pt_not (pt_val (pe_call (ok_is_program_value T) (hr.mono (by decide)) (by rfl) (g_is_program_value T) (f_is_program_value T).kp (b_is_program_value T) .nil pass0 (pa_cons (pv 2) pa_nil)))) (pss_one ps_never) pss_nil)))
  (pss_cons (ps_if (PW.pt (pw_or (pt_not (pt_val (pe_call (ok_is_single_value T) (hr.mono (by decide)) (by rfl) (g_is_single_value T) (f_is_single_value T).kp (b_is_single_value T) .nil pass0 (pa_cons (pv 0) pa_nil)))) (pw_or1 (pt_not (pt_val (pe_call (ok_is_single_value T) (hr.mono (by decide)) (by rfl) (g_is_single_value T) (f_is_single_value T).kp (b_is_single_value T) .nil pass0 (pa_cons (pv 1) pa_nil))))))) (pss_one ps_never) pss_nil)
  (pss_one (ps_if (pt_cmpR (k_ne K hr.units) (pe_slice (k_slT K) (pv 0) po_none (po_some pe_int)) (pe_slice (k_slT K) (pv 1) po_none (po_some pe_int)) (nomark _)) (pss_one ps_never) pss_nil)))), ?_⟩)
  · obtain ⟨u, v, p, r, rfl, _⟩ := h; rfl
  · obtain ⟨u, v, p, r, rfl, hp, hr1, ok1, ok2, e1, e2, q⟩ := h
    refine ⟨_, rfl, _, rfl, szl (show 2 ≤ 1000000 by decide), fun t nt => ⟨t, rfl, ⟨_, .inl (.inl upd_same)⟩, ?_⟩⟩
    have tT : SqT K (upd H t (.tup [u, v])) t [u, v] := .inl (.inl upd_same)
    have s1 : Same H (upd H t (.tup [u, v])) := same_new nt
    generalize upd H t (.tup [u, v]) = H1 at tT s1 ⊢
    refine for_it (walk_tup (K := K) (a := t) (xs := [u, v])) (fun i σ H' => (∃ o, σ = [some u, some v, o]) ∧ Same H1 H') ⟨⟨_, rfl⟩, Same.refl _⟩ (fun i σ H' _ h => Same.ext h.2 _ _ tT) ?_ ?_
    · rintro i x σ H2 H3 hi ⟨⟨o, rfl⟩, s2⟩ ⟨rfl, ex⟩
      have s12 := s1.trans s2
      match i, hi, ex with
      | 0, _, ex =>
        obtain rfl : u = x := Option.some.inj ex
        exact ⟨_, rfl, u, p, rfl, hp.same s12, ok1, fun H4 s4 => ⟨true, rfl, iteF ⟨⟨_, rfl⟩, s2.trans s4⟩⟩⟩
      | 1, _, ex =>
        obtain rfl : v = x := Option.some.inj ex
        exact ⟨_, rfl, v, r, rfl, hr1.same s12, ok2, fun H4 s4 => ⟨true, rfl, iteF ⟨⟨_, rfl⟩, s2.trans s4⟩⟩⟩
    · rintro σ H2 ⟨⟨o, rfl⟩, s2⟩
      have s12 := s1.trans s2
      refine ⟨_, rfl, u, p, rfl, hp.same s12, ok1, fun H3 s3 => ⟨true, rfl, iteF ?_⟩⟩
      refine ⟨_, rfl, v, r, rfl, hr1.same (s12.trans s3), ok2, fun H4 s4 => ⟨true, rfl, iteF ?_⟩⟩
      have s14 := s12.trans (s3.trans s4)
      obtain ⟨a, x1, x2, x3, x4, rfl, hp4⟩ := hp.same s14
      obtain ⟨b, y1, y2, y3, y4, rfl, hr4⟩ := hr1.same s14
      refine ⟨_, rfl, _, rfl, use_sl hp4.tup fun c H5 s5 hc => ?_⟩
      rw [show cutV [x1, x2, x3, x4] none (some 2) = [x1, x2] from cut_take (k := 2) (show 2 ≤ 4 by decide)] at hc
      refine ⟨_, rfl, _, rfl, use_sl (Same.ext s5 _ _ hr4.tup) fun d H6 s6 hd => ?_⟩
      rw [show cutV [y1, y2, y3, y4] none (some 2) = [y1, y2] from cut_take (k := 2) (show 2 ≤ 4 by decide)] at hd
      have s56 := s5.trans s6
      have d1 : Den K H6 (.t [.t (p.ins.map inD), .t (p.facts.map ftD)]) (.ref c) := ⟨c, _, rfl, Same.ext s6 _ _ hc, denL_cons (hp4.ins.den.mono (Same.ext s56)) (denL_cons (hp4.facts.mono (Same.ext s56)) denL_nil)⟩
      have d2 : Den K H6 (.t [.t (p.ins.map inD), .t (p.facts.map ftD)]) (.ref d) := ⟨d, _, rfl, hd, denL_cons (by have := hr4.ins.den.mono (Same.ext s56); rw [e1] at this; exact this) (denL_cons (by have := hr4.facts.mono (Same.ext s56); rw [e2] at this; exact this) denL_nil)⟩
      exact use_neF d1 d2 (pg_fit ok1) (pg_fit ok1) (fun _ => ⟨false, rfl, iteF (q _ (s14.trans s56))⟩) (fun z => absurd rfl z)
theorem sc_has_word : FnScope ["thing", "word", "many"] ["thing", "word", "many"] (defScope (top 57)) := ⟨rfl, rfl, rfl, by decide +kernel, rfl, by decide +kernel, by decide +kernel⟩
def sp_has_word (K : PySem.W.Frag) : Sp := fun vs H Q _ => ∃ (v : V) (x y : Str) (k : Nat) (ds : List Dt), vs = [v, .str y, .int (k : Int)] ∧ Den K H (.t (.s x :: ds)) v ∧ ds.length ≤ 1000 ∧ Q (.bl (decide (ds.length + 1 = k) && decide (x = y))) H
theorem ok_has_word (T : Tx K mg) : FnOk P w K mg base CX0 1 425 (fdA K 425) ["thing", "word", "many"] (sp_has_word K) := by
  refine (f_has_word T).ok sc_has_word (fun vs H Q E h => ?_) (fun cdv A outer s H vs Q E hr h => ⟨_, PSs.nox (pss_one (ps_ret (pe_and (pe_callB (k_isi K) (by rfl) (free_isinstance T) (by decide +kernel) (pa_cons (pv 0) (pa_cons (pe_bltn (v := .ty "tuple") (by rfl) (free_tuple T) (by decide +kernel) rfl) pa_nil))) (pe_and (pe_cmpR op_eq (pe_callB (k_len K) (by rfl) (free_len T) (by decide +kernel) (pa_cons (pv 0) pa_nil)) (pv 2) (nomark _)) (pe_and (pe_callB (k_isi K) (by rfl) (free_isinstance T) (by decide +kernel) (pa_cons (pe_ix (k_ixT K) (pv 0) pe_int (fun _ _ => rfl)) (pa_cons (pe_bltn (v := .ty "str") (by rfl) (free_str T) (by decide +kernel) rfl) pa_nil))) (pe_one (pe_cmpR op_eq (pe_ix (k_ixT K) (pv 0) pe_int (fun _ _ => rfl)) (pv 1) (nomark _)))))))), ?_⟩)
  · obtain ⟨v, x, y, k, ds, rfl, _⟩ := h; rfl
  · obtain ⟨v, x, y, k, ds, rfl, ⟨a, us, rfl, aT, z, r, rfl, hz, hL⟩, hl, q⟩ := h
    obtain rfl : z = .str x := hz
    have lr := hL.length
    refine ⟨_, rfl, use_isi (ty_tup aT) (by decide +kernel) ⟨true, rfl, iteT ?_⟩⟩
    refine ⟨_, rfl, a, _, rfl, .inr aT, _, rfl, rfl, _, rfl, lastB _ (fun l => ?_) (fun l => ?_)⟩
    · have e : r.length + 1 = k := by
        have := V.int.inj (of_decide_eq_true l)
        simp only [List.length_cons] at this
        omega
      rw [decide_eq_true (by omega : ds.length + 1 = k), Bool.true_and] at q
      refine ⟨_, rfl, a, _, _, _, rfl, rfl, aT, atI_nat (j := 0) rfl, use_isi (.base (.str _)) (by decide +kernel) ⟨true, rfl, iteT ?_⟩⟩
      refine ⟨_, rfl, a, _, _, _, rfl, rfl, aT, atI_nat (j := 0) rfl, _, rfl, rfl, ?_⟩
      by_cases c : x = y
      · rw [decide_eq_true c] at q
        rw [decide_eq_true (congrArg V.str c)]
        exact q
      · rw [decide_eq_false c] at q
        rw [decide_eq_false (fun z => c (V.str.inj z))]
        exact q
    · have e : ¬ ds.length + 1 = k := fun z => of_decide_eq_false l (by rw [List.length_cons, lr, ← z])
      rw [decide_eq_false e, Bool.false_and] at q
      exact q
theorem sc_is_point_of : FnScope ["program", "bound", "given"] ["program", "bound", "given"] (defScope (top 84)) := ⟨rfl, rfl, rfl, by decide +kernel, rfl, by decide +kernel, by decide +kernel⟩
def sp_is_point_of (K : PySem.W.Frag) : Sp := fun vs H Q _ => ∃ (u v : V) (p : Pg) (b : Int) (g : List Int), vs = [u, .int b, v] ∧ PgAt K H p u ∧ PgOk p ∧ Den K H (wd g) v ∧ 1 ≤ b ∧ g.length = p.ins.length ∧ ∀ H', Same H H' → Q (.bl true) H'
theorem ok_is_point_of (T : Tx K mg) : FnOk P w K mg base CX0 3 572 (fdA K 572) ["program", "bound", "given"] (sp_is_point_of K) := by
  refine (f_is_point_of T).ok sc_is_point_of (fun vs H Q E h => ?_) (fun cdv A outer s H vs Q E hr h => ⟨_, PSs.nox (pss_one (ps_ret (pe_and (pe_call (ok_is_integer T) (hr.mono (by decide)) (by rfl) (g_is_integer T) (f_is_integer T).kp (b_is_integer T) .nil pass0 (pa_cons (pv 1) pa_nil)) (pe_and (pe_cmpR op_ge (pv 1) pe_int (nomark _)) (pe_one (pe_call (ok_is_row_of T) (hr.mono (by decide)) (by rfl) (g_is_row_of T) (f_is_row_of T).kp (b_is_row_of T) .nil pass0 (pa_cons (pe_callB (k_len K) (by rfl) (free_len T) (by decide +kernel) (pa_cons (pe_ix (k_ixT K) (pv 0) pe_int (fun _ _ => rfl)) pa_nil)) (pa_cons (pv 2) pa_nil)))))))), ?_⟩)
  · obtain ⟨u, v, p, b, g, rfl, _⟩ := h; rfl
  · obtain ⟨u, v, p, b, g, rfl, ⟨a, x1, x2, x3, x4, rfl, hp⟩, ok, hg, hb, hl, q⟩ := h
    obtain ⟨ai, us, rfl, iT, iL⟩ := hp.ins.den
    have ln := iL.length
    rw [List.length_map] at ln
    have i2 := ok.ins.in2
    refine ⟨_, rfl, b, rfl, true, rfl, iteT ?_⟩
    refine ⟨_, rfl, _, _, rfl, rfl, _, rfl, lastB _ (fun _ => ?_) (fun l => absurd hb (of_decide_eq_false l))⟩
    refine ⟨_, rfl, a, _, _, _, rfl, rfl, hp.tup, rfl, ai, us, rfl, .inr iT, _, rfl, ?_⟩
    refine ⟨_, v, g, rfl, hg, by omega, fun H1 s1 => ?_⟩
    rw [decide_eq_true (by omega)]
    exact q _ s1
theorem sc_keeps_all : FnScope ["walls", "point", "wall"] ["walls", "point"] (defScope (top 85)) := ⟨rfl, rfl, rfl, by decide +kernel, rfl, by decide +kernel, by decide +kernel⟩
def keeps (rows : List (List Int)) (pt : List Int) : Bool := rows.all fun r => decide (0 ≤ dot r pt)
def RowsAt (K : PySem.W.Frag) (H : Hp) (a : Addr) (rows : List (List Int)) : Prop := ∃ us, (SqL K H a us ∨ SqT K H a us) ∧ DenL K H (rows.map wd) us
theorem RowsAt.same {H H' : Hp} {a : Addr} {rows : List (List Int)} (h : RowsAt K H a rows) (s : Same H H') : RowsAt K H' a rows := by
  obtain ⟨us, h1, h2⟩ := h
  exact ⟨us, h1.elim (fun z => .inl (Same.seq s z)) fun z => .inr (Same.ext s _ _ z), DenL.mono (Same.ext s) h2⟩
/-- truth values from rows -/
theorem lc_rowsB {J : It} {us : List V} {rows : List (List Int)} {G : Hp → Prop} {σ : L2.St} {H1 : Hp} {te : TE} {vs : List Nat} {pp : Nat}
    {D : Addr} (hD : H1 D = none) {Qd : Hp → Prop} (wk : Walk J us.length G (YAt us)) (hL : DenL K H1 (rows.map wd) us) (F : List Int → Bool) (hz : rows.length ≤ 100000) (hG : ∀ H', Same H1 H' → G H') (hw : ∀ x, wipe ((wipe σ vs).set pp (some x)) vs = wipe σ vs)
    (body : ∀ r x (Q' : VK) H2, r ∈ rows → Same H1 H2 → Den K H2 (wd r) x → (∀ H4, Same H2 H4 → Q' (.bl (F r)) H4) → te ((wipe σ vs).set pp (some x)) H2 Q')
    (post : ∀ H', Same H1 H' → H' D = some (.lst ((rows.map F).map V.bl)) → Qd H') : LcGoal D J H1 σ vs (gName pp) tYes te Qd := by
  have ln := hL.length
  rw [List.length_map] at ln
  refine lc_map (K := K) hD wk (fun i => .b (F (rows.getD i []))) (by omega) hG ?_ ?_
  · rintro i x H' H2 Q' hi s ⟨rfl, ex⟩ q'
    obtain ⟨hi2, dx⟩ := rowsD_at hL ex
    exact ⟨hw _, body _ _ _ _ (by rw [getD_of hi2]; exact List.getElem_mem hi2) s (dx.mono (Same.ext s)) fun H4 s4 => q' _ _ s4 rfl⟩
  · intro H' us' s eD dL
    rw [ln] at dL
    have e := map_at rows [] (fun x => Dt.b (F x))
    rw [e] at dL
    have e2 : rows.map (fun x => Dt.b (F x)) = (rows.map F).map Dt.b := by rw [List.map_map]; rfl
    rw [e2] at dL
    rw [dL.bools] at eD
    exact post H' s eD
def sp_keeps_all (K : PySem.W.Frag) : Sp := fun vs H Q _ => ∃ (a : Addr) (v : V) (rows : List (List Int)) (pt : List Int), vs = [.ref a, v] ∧ RowsAt K H a rows ∧ Den K H (wd pt) v ∧ rows.length ≤ 1000 ∧ (∀ r ∈ rows, r.length ≤ 1000 ∧ Big r) ∧ Big pt ∧ ∀ H', Same H H' → Q (.bl (keeps rows pt)) H'
theorem ok_keeps_all (T : Tx K mg) : FnOk P w K mg base CX0 2 577 (fdA K 577) ["walls", "point"] (sp_keeps_all K) := by
  refine (f_keeps_all T).ok sc_keeps_all (fun vs H Q E h => ?_) (fun cdv A outer s H vs Q E hr h => ⟨_, PSs.nox (pss_one (ps_ret (pe_callB (k_all K rfl) (by rfl) (free_all T) (by decide +kernel) (pa_cons (pe_lc (own := [("wall", 2)]) rfl sc_keeps_all.nd (k_pia K (pv 0)) (blkOk_by (N := ["walls", "point", "wall"]) (sc := (defScope (top 85))) (by decide +kernel)) (fun _ _ _ _ _ => (pg_name (i := 2) sc_keeps_all.nd rfl (.inl rfl) (hf := (.inr rfl)))) (fun _ _ _ _ _ => pts_nil) (fun _ _ _ _ _ => (pe_cmpR op_ge (pe_call (ok_value_at T) (hr.mono (by decide)) (by rfl) (g_value_at T) (f_value_at T).kp (b_value_at T) .nil pass0 (pa_cons (pv 2) (pa_cons (pv 1) pa_nil))) pe_int (nomark _)))) pa_nil)))), ?_⟩)
  · obtain ⟨a, v, rows, pt, rfl, _⟩ := h; rfl
  · obtain ⟨a, v, rows, pt, rfl, ⟨us, ha, hL⟩, hv, hz, hr2, hB, q⟩ := h
    have fin : ∀ (D : Addr) (H' : Hp), Same H H' → H' D = some (.lst ((rows.map fun r => decide (0 ≤ dot r pt)).map V.bl)) → rAll K [.ref D] H' Q := fun D H' s eD => by
      refine ⟨D, _, rfl, SqL.of eD, ?_⟩
      have e := q _ s
      unfold keeps at e
      rw [show ((rows.map fun r => decide (0 ≤ dot r pt)).all id) = rows.all (fun r => decide (0 ≤ dot r pt)) by rw [List.all_map]; rfl]
      exact e
    rcases ha with hA | hA
    · refine ⟨_, rfl, a, rfl, .inl ⟨us, hA, fun D nD => lc_rowsB nD (walk_list (K := K) (a := a) (xs := us)) hL (fun r => decide (0 ≤ dot r pt)) (by omega) (fun Hh s => Same.seq s hA) (fun _ => by rfl) (fun r x Q' H2 hr s2 dx q' => ?_) (fun H' s eD => fin D H' s eD)⟩⟩
      exact ⟨_, rfl, _, rfl, x, v, r, pt, rfl, dx, hv.mono (Same.ext s2), (hr2 r hr).1, (hr2 r hr).2, hB, fun H3 s3 => ⟨_, _, rfl, rfl, q' _ s3⟩⟩
    · refine ⟨_, rfl, a, rfl, .inr ⟨us, hA, fun D nD => lc_rowsB nD (walk_tup (K := K) (a := a) (xs := us)) hL (fun r => decide (0 ≤ dot r pt)) (by omega) (fun Hh s => Same.ext s _ _ hA) (fun _ => by rfl) (fun r x Q' H2 hr s2 dx q' => ?_) (fun H' s eD => fin D H' s eD)⟩⟩
      exact ⟨_, rfl, _, rfl, x, v, r, pt, rfl, dx, hv.mono (Same.ext s2), (hr2 r hr).1, (hr2 r hr).2, hB, fun H3 s3 => ⟨_, _, rfl, rfl, q' _ s3⟩⟩
end
end K28
end
section
set_option Elab.async false
set_option linter.all false
set_option maxRecDepth 100000
set_option maxHeartbeats 4000000
set_option exponentiation.threshold 2000
namespace K28
open PySem L2
structure JIn (p r : Pg) (C : Nat) : Prop where
  ok1 : PgOk p
  ok2 : PgOk r
  ins : r.ins = p.ins
  facts : r.facts = p.facts
  hA : ∀ w ∈ room p, w.length = p.ins.length + 1 ∧ ∀ x ∈ w, x.natAbs ≤ C
  hB : ∀ w ∈ vwalls r, w.length = p.ins.length + 1 ∧ ∀ x ∈ w, x.natAbs ≤ C
  hC : 1 ≤ C
  hF : bd (p.ins.length + 1) C < 2 ^ 500
theorem room_len (p : Pg) : (room p).length = 2 * p.ins.length + p.facts.length + 2 * p.body.length := by
  unfold room vwalls
  rw [List.length_append, inW_len, vw_len]
theorem JIn.pap {p r : Pg} {C : Nat} (J : JIn p r C) {w : List Int} (hw : w ∈ vwalls r) : PapIn (p.ins.length + 1) C (room p) w where
  hn := by omega
  hn2 := by have := J.ok1.ins.in2; omega
  hw := fun q hq => (J.hA q hq).1
  hl := (J.hB w hw).1
  wB := fun q hq => (J.hA q hq).2
  lB := (J.hB w hw).2
  hC := J.hC
  hz := by
    have := J.ok1.ins.in2
    have := J.ok1.facts.f1
    have := J.ok1.blen
    rw [room_len]; omega
  hF := J.hF
abbrev Pap := Int × List Int × Int
def papT (q : Pap) : Dt := papD q.1 q.2.1 q.2.2
inductive Tl where
  | w (ps : List Pap)
  | t (b : Int) (g : List Int)
def Tl.d : Tl → Dt
  | .w ps => .t [.s "weights", .t (ps.map papT)]
  | .t b g => .t [.s "trips", .i b, wd g]
def Told (p r : Pg) (Bd : Nat) : Tl → Prop
  | .w ps => ps.length = (vwalls r).length ∧ ∀ (i : Nat) (q : Pap) (w : List Int), ps[i]? = some q → (vwalls r)[i]? = some w → IsPap (room p) w Bd q.1 q.2.2 q.2.1
  | .t b g => ∃ w ∈ vwalls r, IsPt (room p) w Bd (g ++ [b])
theorem cut_init {xs : List V} (h : 0 < xs.length) : cutV xs none (some (-1)) = xs.take (xs.length - 1) := by
  unfold cutV
  have e : HT.sIx xs.length xs.length (some (-1)) = xs.length - 1 := by unfold HT.sIx; simp; omega
  rw [e, HT.sIx_none, List.drop_zero, Nat.sub_zero]
theorem init_last {xs : List Int} (h : 0 < xs.length) : xs.take (xs.length - 1) ++ [xs.getD (xs.length - 1) 0] = xs := by
  rw [getD_of (by omega), ← List.take_succ_eq_append_getElem (by omega), List.take_of_length_le (by omega)]
section
variable {P : Program} {w : World} {K : PySem.W.Frag} {mg : Str → Option Value} {base : Heap}
theorem sc_judge_never_more : FnScope ["one", "other", "wall", "walls", "papers", "paper", "point"] ["one", "other"] (defScope (top 83)) := ⟨rfl, rfl, rfl, by decide +kernel, rfl, by decide +kernel, by decide +kernel⟩
def sp_judge (K : PySem.W.Frag) : Sp := fun vs H Q _ => ∃ (u v : V) (p r : Pg) (C : Nat), vs = [u, v] ∧ PgAt K H p u ∧ PgAt K H r v ∧ JIn p r C ∧ ∀ y H' tl, Same H H' → Den K H' tl.d y → Told p r (bd (p.ins.length + 1) C) tl → Q y H'
theorem ok_judge_never_more (T : Tx K mg) : FnOk P w K mg base CX0 9 565 (fdA K 565) ["one", "other"] (sp_judge K) := by
  refine (f_judge_never_more T).ok sc_judge_never_more (fun vs H Q E h => ?_) (fun cdv A outer s H vs Q E hr h => ⟨_, PSs.nox (pss_cons (ps_expr (pe_call (ok_need_two T) (hr.mono (by decide)) (by rfl) (g_need_two T) (f_need_two T).kp (b_need_two T) .nil pass0 (pa_cons (pv 0) (pa_cons (pv 1) pa_nil))))
  (pss_cons (ps_par (i := 3) (j := 4) rfl sc_judge_never_more.nd rfl rfl (by decide) rfl rfl (pa_cons (pe_ix (k_ixT K) (pe_call (ok_whole_room T) (hr.mono (by decide)) (by rfl) (g_whole_room T) (f_whole_room T).kp (b_whole_room T) .nil pass0 (pa_cons (pv 0) (pa_cons (pe_ix (k_ixL K) (pe_call (ok_ways_list T) (hr.mono (by decide)) (by rfl) (g_ways_list T) (f_ways_list T).kp (b_ways_list T) .nil pass0 (pa_cons (pv 0) pa_nil)) pe_int (fun _ _ => rfl)) pa_nil))) pe_int (fun _ _ => rfl)) (pa_cons (pe_lst pa_nil) pa_nil)) (by rfl))
  (pss_cons (ps_for PassesOwn.never rfl (k_pil K (pe_call (ok_value_walls T) (hr.mono (by decide)) (by rfl) (g_value_walls T) (f_value_walls T).kp (b_value_walls T) .nil pass0 (pa_cons (pv 1) pa_nil))) (pg_name (i := 2) sc_judge_never_more.nd rfl (.inl rfl) (hf := (.inl rfl)))
    (pss_cons (ps_asg (pe_call (ok_followed T) (hr.mono (by decide)) (by rfl) (g_followed T) (f_followed T).kp (b_followed T) .nil pass0 (pa_cons (pe_callB (k_len K) (by rfl) (free_len T) (by decide +kernel) (pa_cons (pv 2) pa_nil)) (pa_cons (pv 3) (pa_cons (pe_tup pa_nil) (pa_cons (pv 2) pa_nil))))) (k_tgt K 2 rfl (pgs_cons (pg_name (i := 5) sc_judge_never_more.nd rfl (.inl rfl) (hf := (.inl rfl))) (pgs_cons (pg_name (i := 6) sc_judge_never_more.nd rfl (.inl rfl) (hf := (.inl rfl))) pgs_nil))))
  (pss_cons (ps_if (pt_cmpR op_isN (pv 5) pe_non (nomark _)) (pss_one (ps_ret (pe_tup (pa_cons pe_str (pa_cons (pe_ix (k_ixT K) (pv 6) (pe_un un_neg pe_int) (fun _ _ => rfl)) (pa_cons (pe_slice (k_slT K) (pv 6) po_none (po_some (pe_un un_neg pe_int))) pa_nil)))))) pss_nil)
  (pss_one (ps_expr (pe_bm PySem.F.plainAttrs_list PySem.F.slot_list_append PySem.F.type_list_append mt_append (pv 4) (pa_cons (pv 5) pa_nil)))))))
  (pss_one (ps_ret (pe_tup (pa_cons pe_str (pa_cons (pe_callTy (k_tuple K) (by rfl) (free_tuple T) (by decide +kernel) (pa_cons (pv 4) pa_nil)) pa_nil)))))))), ?_⟩)
  · obtain ⟨u, v, p, r, C, rfl, _⟩ := h; rfl
  · obtain ⟨u, v, p, r, C, rfl, hp, hr1, J, q⟩ := h
    have i2 := J.ok1.ins.in2
    have b2 := J.ok2.blen
    refine ⟨_, rfl, _, rfl, u, v, p, r, rfl, hp, hr1, J.ok1, J.ok2, J.ins, J.facts, fun H1 s1 => ?_⟩
    refine ⟨_, rfl, _, rfl, u, p, rfl, hp.same s1, J.ok1, fun l y H2 s2 el hy => ?_⟩
    refine ⟨l, _, _, _, rfl, rfl, SqL.of el, rfl, ?_⟩
    have s02 := s1.trans s2
    refine ⟨u, y, p, rfl, hp.same s02, J.ok1, hy, fun t H3 s3 dt => ?_⟩
    obtain ⟨at_, x1, x2, rfl, tT, d1, d2⟩ := dt.pair
    have s03 := s02.trans s3
    refine ⟨at_, _, _, _, rfl, rfl, tT, rfl, szl (show 0 ≤ 1000000 by decide), fun pl npl => ⟨_, _, rfl, ?_⟩⟩
    have s4 := s03.trans (same_new (o := .lst []) npl)
    have d1' := d1.mono (Same.ext (same_new (o := .lst []) npl))
    have epl : upd H3 pl (.lst []) pl = some (.lst []) := upd_same
    have n0 : H pl = none := noneBack npl s03
    generalize upd H3 pl (.lst []) = H4 at s4 d1' epl ⊢
    refine ⟨_, rfl, v, r, rfl, hr1.same s4, J.ok2, fun wl H5 s5 nwl ⟨ws, ew, dw⟩ => ?_⟩
    have lw := dw.length
    rw [List.length_map] at lw
    have lv : (vwalls r).length = 2 * r.body.length := vw_len r _
    have s05 := s4.trans s5
    have d15 := d1'.mono (Same.ext s5)
    have nwp : wl ≠ pl := fun z => by rw [z, epl] at nwl; cases nwl
    refine ⟨wl, rfl, ⟨_, SqL.of ew⟩, ?_⟩
    refine for_it (walk_list (K := K) (a := wl) (xs := ws)) (fun i σ H' => (∃ o2 o5 o6, σ = [some u, some v, o2, some x1, some (.ref pl), o5, o6]) ∧ Same H H' ∧ ExT K H5 H' ∧ H' wl = some (.lst ws) ∧
        ∃ ps : List Pap, LD K H' pl (ps.map papT) ∧ ps.length = i ∧ ∀ (j : Nat) (q : Pap) (w : List Int), ps[j]? = some q → (vwalls r)[j]? = some w → IsPap (room p) w (bd (p.ins.length + 1) C) q.1 q.2.2 q.2.1)
      ⟨⟨_, _, _, rfl⟩, s05, ExT.refl _, ew, [], ⟨[], s5 _ _ epl, rfl⟩, rfl, fun j q w h => by simp at h⟩ (fun i σ H' _ h => SqL.of h.2.2.2.1) ?_ ?_
    · rintro i x σ H6 H7 hi ⟨⟨o2, o5, o6, rfl⟩, s6, x6, ew6, ps, ⟨vs6, ev6, dv6⟩, lp, hps⟩ ⟨rfl, ex⟩
      obtain ⟨hi2, dx⟩ := rowsD_at (DenL.mono x6 dw) ex
      have hwm : (vwalls r).getD i [] ∈ vwalls r := by rw [getD_of hi2]; exact List.getElem_mem hi2
      obtain ⟨ax, rfl, xT⟩ := dx.wd
      have I := J.pap hwm
      refine ⟨_, rfl, ax, _, rfl, .inr xT, _, rfl, szl (show 0 ≤ 1000000 by decide), fun z nz => ⟨_, rfl, ?_⟩⟩
      have s7 := same_new (o := .tup []) nz
      rw [List.length_map, I.hl]
      refine ⟨p.ins.length + 1, C, x1, .ref z, .ref ax, room p, (vwalls r).getD i [], rfl, (d15.mono x6).mono (Same.ext s7), ⟨z, [], rfl, .inl (.inl upd_same), rfl⟩, dx.mono (Same.ext s7), I, fun t H8 pt s8 dt hpt => ?_, fun t H8 m b wgt s8 dt hpap => ?_⟩
      · obtain ⟨at2, z1, z2, rfl, tT2, e1, e2⟩ := dt.pair
        obtain rfl : z1 = .non := e1
        obtain ⟨ap, rfl, pT⟩ := e2.wd
        refine g_pair tT2 ⟨_, rfl, rfl, _, rfl, iteT ?_⟩
        have lpt : pt.length = p.ins.length + 1 := by rw [hpt.len]; exact (J.hB _ hwm).1
        have lpm : (pt.map V.int).length = p.ins.length + 1 := by rw [List.length_map, lpt]
        refine ⟨_, rfl, _, rfl, ap, _, _, _, rfl, rfl, pT, atI_neg1 (by rw [lpm]; exact int_at (j := p.ins.length) (by omega)) (by omega), ?_⟩
        refine ⟨_, rfl, _, rfl, _, rfl, use_sl pT fun c H9 s9 hc => ⟨szl (show 3 ≤ 1000000 by decide), fun tt ntt => ?_⟩⟩
        rw [cut_init (by omega), lpm, ← List.map_take] at hc
        refine q _ _ (.t (pt.getD p.ins.length 0) (pt.take p.ins.length)) (s6.trans (s7.trans (s8.trans (s9.trans (same_new ntt))))) (den_new ntt (denL_cons rfl (denL_cons rfl (denL_cons (den_wd hc) denL_nil)))) ⟨_, hwm, ?_⟩
        have e3 := init_last (xs := pt) (by omega)
        rw [lpt, Nat.add_sub_cancel] at e3
        rw [e3]; exact hpt
      · obtain ⟨at2, z1, z2, rfl, tT2, e1, e2⟩ := dt.pair
        obtain ⟨ap, ys, rfl, pT, yL⟩ := id e1
        refine g_pair tT2 ⟨_, rfl, rfl, _, rfl, iteF ?_⟩
        have s78 := s7.trans s8
        have ev8 := s78 _ _ ev6
        have lv6 := dv6.length
        rw [List.length_map] at lv6
        refine ⟨_, rfl, .inl ⟨rfl, _, SqL.of ev8⟩, _, rfl, pl, vs6, _, rfl, rfl, ev8, szlt (by omega), ⟨_, _, _, rfl⟩, same_upd (s6.trans s78) n0, x6.trans ((Same.ext s78).trans (ext_upd ev8 rfl)), by rw [upd_ne nwp]; exact s78 _ _ ew6, ps ++ [(m, wgt, b)], ⟨_, upd_same, ?_⟩, by rw [List.length_append, lp]; rfl, fun j q2 w2 h1 h2 => ?_⟩
        · rw [List.map_append]
          exact denL_snoc ((dv6.mono (Same.ext s78)).mono (ext_upd ev8 rfl)) (e1.mono (ext_upd ev8 rfl))
        · by_cases hj : j < ps.length
          · rw [List.getElem?_append_left hj] at h1
            exact hps j q2 w2 h1 h2
          · rw [List.getElem?_append_right (by omega)] at h1
            have hj2 : j - ps.length = 0 := by
              have := (List.getElem?_eq_some_iff.mp h1).1
              simp at this; omega
            have hji : j = i := by omega
            rw [hj2] at h1
            obtain rfl := Option.some.inj h1
            rw [hji, List.getElem?_eq_getElem hi2] at h2
            rw [← Option.some.inj h2, ← getD_of (d := []) hi2]
            exact hpap
    · rintro σ H6 ⟨⟨o2, o5, o6, rfl⟩, s6, x6, ew6, ps, ⟨vs6, ev6, dv6⟩, lp, hps⟩
      refine ⟨_, rfl, pl, vs6, rfl, .inl ⟨SqL.of ev6, fun c nc => ⟨szl (show 2 ≤ 1000000 by decide), fun tt ntt => ?_⟩⟩⟩
      have sc := same_new (o := .tup vs6) nc
      refine q _ _ (.w ps) (s6.trans (sc.trans (same_new ntt))) (den_new ntt (denL_cons rfl (denL_cons ⟨c, vs6, rfl, .inl (.inl upd_same), dv6.mono (Same.ext sc)⟩ denL_nil))) ⟨by rw [lp, lw], hps⟩
end
end K28
end
section
set_option Elab.async false
set_option linter.all false
set_option maxRecDepth 100000
set_option maxHeartbeats 4000000
set_option exponentiation.threshold 2000
namespace K28
open PySem L2
theorem JIn.big {p r : Pg} {C : Nat} (J : JIn p r C) : C < 2 ^ 500 := by
  have h1 := J.hF
  have h2 : C ≤ bd (p.ins.length + 1) C := by
    unfold bd
    have h3 : C ≤ facP (p.ins.length + 1 + 1) C := by
      show C ≤ (p.ins.length + 1 + 1) * (C * facP (p.ins.length + 1) C)
      have h4 : 1 ≤ facP (p.ins.length + 1) C := facP_pos _ _ J.hC
      calc C ≤ C * facP (p.ins.length + 1) C := Nat.le_mul_of_pos_right _ h4
        _ ≤ _ := Nat.le_mul_of_pos_left _ (by omega)
    exact Nat.le_trans h3 (Nat.le_mul_of_pos_left _ (by omega))
  omega
theorem big_of {r : List Int} {C : Nat} (h : ∀ x ∈ r, x.natAbs ≤ C) (hC : C < 2 ^ 500) : Big r := fun x hx => lt500 (by have := h x hx; omega)
section
variable {P : Program} {w : World} {K : PySem.W.Frag} {mg : Str → Option Value} {base : Heap}
theorem sc_never_more_holds : FnScope ["one", "other", "thing", "walls", "due", "point", "wall", "paper"] ["one", "other", "thing"] (defScope (top 86)) := ⟨rfl, rfl, rfl, by decide +kernel, rfl, by decide +kernel, by decide +kernel⟩
def sp_holds (K : PySem.W.Frag) : Sp := fun vs H Q _ => ∃ (u v z : V) (p r : Pg) (C : Nat) (tl : Tl), vs = [u, v, z] ∧ PgAt K H p u ∧ PgAt K H r v ∧ JIn p r C ∧ Den K H tl.d z ∧
  (match tl with
  | .w ps => Told p r (bd (p.ins.length + 1) C) (.w ps) ∧ ∀ H', Same H H' → Q (.bl true) H'
  | .t b g => 1 ≤ b ∧ g.length = p.ins.length ∧ Big (g ++ [b]) ∧ ∀ H', Same H H' → Q (.bl (keeps (room p) (g ++ [b]) && !keeps (vwalls r) (g ++ [b]))) H')
theorem ok_never_more_holds (T : Tx K mg) : FnOk P w K mg base CX0 9 582 (fdA K 582) ["one", "other", "thing"] (sp_holds K) := by
  refine (f_never_more_holds T).ok sc_never_more_holds (fun vs H Q E h => ?_) (fun cdv A outer s H vs Q E hr h => ⟨_, PSs.nox (pss_cons (ps_expr (pe_call (ok_need_two T) (hr.mono (by decide)) (by rfl) (g_need_two T) (f_need_two T).kp (b_need_two T) .nil pass0 (pa_cons (pv 0) (pa_cons (pv 1) pa_nil))))
  (pss_cons (ps_asg (pe_tup (pa_cons (pe_ix (k_ixT K) (pe_call (ok_whole_room T) (hr.mono (by decide)) (by rfl) (g_whole_room T) (f_whole_room T).kp (b_whole_room T) .nil pass0 (pa_cons (pv 0) (pa_cons (pe_ix (k_ixL K) (pe_call (ok_ways_list T) (hr.mono (by decide)) (by rfl) (g_ways_list T) (f_ways_list T).kp (b_ways_list T) .nil pass0 (pa_cons (pv 0) pa_nil)) pe_int (fun _ _ => rfl)) pa_nil))) pe_int (fun _ _ => rfl)) (pa_cons (pe_call (ok_value_walls T) (hr.mono (by decide)) (by rfl) (g_value_walls T) (f_value_walls T).kp (b_value_walls T) .nil pass0 (pa_cons (pv 1) pa_nil)) pa_nil))) (k_tgt K 2 rfl (pgs_cons (pg_name (i := 3) sc_never_more_holds.nd rfl (.inr rfl) (hf := (.inl rfl))) (pgs_cons (pg_name (i := 4) sc_never_more_holds.nd rfl (.inl rfl) (hf := (.inl rfl))) pgs_nil))))
  (pss_cons (ps_if (pt_val (pe_call (ok_has_word T) (hr.mono (by decide)) (by rfl) (g_has_word T) (f_has_word T).kp (b_has_word T) .nil pass0 (pa_cons (pv 2) (pa_cons pe_str (pa_cons pe_int pa_nil))))) (pss_cons (ps_if (pt_not (pt_val (pe_call (ok_is_point_of T) (hr.mono (by decide)) (by rfl) (g_is_point_of T) (f_is_point_of T).kp (b_is_point_of T) .nil pass0 (pa_cons (pv 0) (pa_cons (pe_ix (k_ixT K) (pv 2) pe_int (fun _ _ => rfl)) (pa_cons (pe_ix (k_ixT K) (pv 2) pe_int (fun _ _ => rfl)) pa_nil)))))) (pss_one (ps_ret pe_bl)) pss_nil)
  (pss_cons (ps_set (i := 5) sc_never_more_holds.nd rfl (.inl rfl) (pe_op (k_cat K) (pe_ix (k_ixT K) (pv 2) pe_int (fun _ _ => rfl)) (pe_tup (pa_cons (pe_ix (k_ixT K) (pv 2) pe_int (fun _ _ => rfl)) pa_nil))))
  (pss_one (ps_ret (pe_and (pe_call (ok_keeps_all T) (hr.mono (by decide)) (by rfl) (g_keeps_all T) (f_keeps_all T).kp (b_keeps_all T) .nil pass0 (pa_cons (pv 3) (pa_cons (pv 5) pa_nil))) (pe_one (pe_not (pe_call (ok_keeps_all T) (hr.mono (by decide)) (by rfl) (g_keeps_all T) (f_keeps_all T).kp (b_keeps_all T) .nil pass0 (pa_cons (pv 4) (pa_cons (pv 5) pa_nil)))))))))) pss_nil)
  (pss_cons (ps_if (PW.pt (pw_or (pt_not (pt_val (pe_call (ok_has_word T) (hr.mono (by decide)) (by rfl) (g_has_word T) (f_has_word T).kp (b_has_word T) .nil pass0 (pa_cons (pv 2) (pa_cons pe_str (pa_cons pe_int pa_nil)))))) (pw_or (pt_not (pt_val (pe_callB (k_isi K) (by rfl) (free_isinstance T) (by decide +kernel) (pa_cons (pe_ix (k_ixT K) (pv 2) pe_int (fun _ _ => rfl)) (pa_cons (pe_bltn (v := .ty "tuple") (by rfl) (free_tuple T) (by decide +kernel) rfl) pa_nil))))) (pw_or1 (pt_cmpR op_ne (pe_callB (k_len K) (by rfl) (free_len T) (by decide +kernel) (pa_cons (pe_ix (k_ixT K) (pv 2) pe_int (fun _ _ => rfl)) pa_nil)) (pe_callB (k_len K) (by rfl) (free_len T) (by decide +kernel) (pa_cons (pv 4) pa_nil)) (nomark _)))))) (pss_one (ps_ret pe_bl)) pss_nil)
  (pss_one (ps_ret (pe_callB (k_all K rfl) (by rfl) (free_all T) (by decide +kernel) (pa_cons (pe_lc (own := [("wall", 6), ("paper", 7)]) rfl sc_never_more_holds.nd (k_zip K true false (by rfl) (free_zip T) (pa_cons (pv 4) (pa_cons (pe_ix (k_ixT K) (pv 2) pe_int (fun _ _ => rfl)) pa_nil))) (blkOk_by (N := ["one", "other", "thing", "walls", "due", "point", "wall", "paper"]) (sc := (defScope (top 86))) (by decide +kernel)) (fun _ _ _ _ _ => (k_tgt K 2 rfl (pgs_cons (pg_name (i := 6) sc_never_more_holds.nd rfl (.inl rfl) (hf := (.inr rfl))) (pgs_cons (pg_name (i := 7) sc_never_more_holds.nd rfl (.inl rfl) (hf := (.inr rfl))) pgs_nil)))) (fun _ _ _ _ _ => pts_nil) (fun _ _ _ _ _ => (pe_call (ok_is_paper T) (hr.mono (by decide)) (by rfl) (g_is_paper T) (f_is_paper T).kp (b_is_paper T) .nil pass0 (pa_cons (pe_callB (k_len K) (by rfl) (free_len T) (by decide +kernel) (pa_cons (pv 6) pa_nil)) (pa_cons (pv 3) (pa_cons (pe_tup pa_nil) (pa_cons (pv 6) (pa_cons (pv 7) pa_nil)))))))) pa_nil)))))))), ?_⟩)
  · obtain ⟨u, v, z, p, r, C, tl, rfl, _⟩ := h; rfl
  · obtain ⟨u, v, z, p, r, C, tl, rfl, hp, hr1, J, hz, q⟩ := h
    have i2 := J.ok1.ins.in2
    have b1 := J.ok1.blen
    have b2 := J.ok2.blen
    have f1 := J.ok1.facts.f1
    have cB := J.big
    refine ⟨_, rfl, _, rfl, u, v, p, r, rfl, hp, hr1, J.ok1, J.ok2, J.ins, J.facts, fun H1 s1 => ?_⟩
    refine ⟨_, rfl, _, rfl, u, p, rfl, hp.same s1, J.ok1, fun l y H2 s2 el hy => ?_⟩
    refine ⟨l, _, _, _, rfl, rfl, SqL.of el, rfl, ?_⟩
    have s02 := s1.trans s2
    refine ⟨u, y, p, rfl, hp.same s02, J.ok1, hy, fun t H3 s3 dt => ?_⟩
    obtain ⟨at_, x1, x2, rfl, tT, d1, d2⟩ := dt.pair
    obtain ⟨ar, rs, rfl, rT, rL⟩ := id d1
    have s03 := s02.trans s3
    refine ⟨at_, _, _, _, rfl, rfl, tT, rfl, _, rfl, v, r, rfl, hr1.same s03, J.ok2, fun wl H4 s4 nwl ⟨ws, ew, dw⟩ => ⟨szl (show 2 ≤ 1000000 by decide), fun tp ntp => ?_⟩⟩
    have s5 := s4.trans (same_new (o := .tup [.ref ar, .ref wl]) ntp)
    have ew5 := (same_new (o := .tup [.ref ar, .ref wl]) ntp) _ _ ew
    have dw5 := DenL.mono (Same.ext (same_new (o := .tup [.ref ar, .ref wl]) ntp)) dw
    have tpT : SqT K (upd H4 tp (.tup [.ref ar, .ref wl])) tp [.ref ar, .ref wl] := .inl (.inl upd_same)
    generalize upd H4 tp (.tup [.ref ar, .ref wl]) = H5 at s5 ew5 dw5 tpT ⊢
    have s05 := s03.trans s5
    have d15 := d1.mono (Same.ext s5)
    refine g_pair tpT ?_
    have lw := dw5.length
    rw [List.length_map] at lw
    have lv : (vwalls r).length = 2 * r.body.length := vw_len r _
    have rl := room_len p
    have rA : RowsAt K H5 ar (room p) := ⟨rs, .inr (Same.ext s5 _ _ rT), DenL.mono (Same.ext s5) rL⟩
    have rB : RowsAt K H5 wl (vwalls r) := ⟨ws, .inl (SqL.of ew5), dw5⟩
    have hz5 := hz.mono (Same.ext s05)
    cases tl with
    | t b g =>
      obtain ⟨hb, hg, hBig, q⟩ := q
      obtain ⟨az, us, rfl, zT, z1, r1, rfl, e1, z2, r2, rfl, e2, z3, r3, rfl, e3, rfl⟩ := id hz5
      obtain rfl : z1 = .str "trips" := e1
      obtain rfl : z2 = .int b := e2
      obtain ⟨ag, rfl, gT⟩ := e3.wd
      refine ⟨_, rfl, .ref az, "trips", "trips", 3, [.i b, wd g], rfl, hz5, (show 2 ≤ 1000 by decide), true, by rfl, iteT ?_⟩
      refine ⟨_, rfl, _, rfl, az, _, _, _, rfl, rfl, zT, rfl, _, rfl, az, _, _, _, rfl, rfl, zT, rfl, ?_⟩
      refine ⟨u, .ref ag, p, b, g, rfl, hp.same s05, J.ok1, e3, hb, hg, fun H6 s6 => ⟨true, rfl, iteF ?_⟩⟩
      have zT6 := Same.ext s6 _ _ zT
      have gT6 := Same.ext s6 _ _ gT
      refine ⟨_, rfl, az, _, _, _, rfl, rfl, zT6, rfl, _, rfl, az, _, _, _, rfl, rfl, zT6, rfl, szl (show 1 ≤ 1000000 by decide), fun t1 nt1 => ?_⟩
      refine cat_one (Same.ext (same_new nt1) _ _ gT6) (.inl (.inl upd_same)) (by omega) fun pv H7 s7 dp => ?_
      have s57 := s6.trans ((same_new nt1).trans s7)
      refine ⟨_, rfl, _, rfl, ar, pv, room p, g ++ [b], rfl, rA.same s57, dp, by omega, fun q2 hq => ⟨by rw [(J.hA q2 hq).1]; omega, big_of (J.hA q2 hq).2 cB⟩, hBig, fun H8 s8 => ⟨_, rfl, lastB _ (fun k => ?_) (fun k => ?_)⟩⟩
      · refine ⟨_, rfl, _, rfl, wl, pv, vwalls r, g ++ [b], rfl, rB.same (s57.trans s8), dp.mono (Same.ext s8), by omega, fun q2 hq => ⟨by rw [(J.hB q2 hq).1]; omega, big_of (J.hB q2 hq).2 cB⟩, hBig, fun H9 s9 => ⟨_, rfl, ?_⟩⟩
        have e := q _ (s05.trans (s57.trans (s8.trans s9)))
        rw [k, Bool.true_and] at e
        exact e
      · have e := q _ (s05.trans (s57.trans s8))
        rw [k, Bool.false_and] at e
        exact e
    | w ps =>
      obtain ⟨⟨lps, hps⟩, q⟩ := q
      obtain ⟨az, us, rfl, zT, z1, r1, rfl, e1, z2, r2, rfl, e2, rfl⟩ := id hz5
      obtain rfl : z1 = .str "weights" := e1
      obtain ⟨ag, gs, rfl, gT, gL⟩ := e2
      have lg := gL.length
      rw [List.length_map] at lg
      refine ⟨_, rfl, .ref az, "weights", "trips", 3, [.t (ps.map papT)], rfl, hz5, (show 1 ≤ 1000 by decide), false, by rfl, iteF ?_⟩
      refine ⟨_, rfl, .ref az, "weights", "weights", 2, [.t (ps.map papT)], rfl, hz5, (show 1 ≤ 1000 by decide), true, by rfl, iteF ?_⟩
      refine ⟨_, rfl, az, _, _, _, rfl, rfl, zT, rfl, use_isi (ty_tup gT) (by decide +kernel) ⟨true, rfl, iteF ?_⟩⟩
      refine ⟨_, rfl, az, _, _, _, rfl, rfl, zT, rfl, ag, gs, rfl, .inr gT, _, rfl, wl, ws, rfl, .inl (SqL.of ew5), rfl, false, ?_, iteF ?_⟩
      · rw [lg, lw, lps, decide_eq_true rfl]; rfl
      refine ⟨_, rfl, _, rfl, az, _, _, _, rfl, rfl, zT, rfl, wl, ag, ws, gs, rfl, SqL.of ew5, gT, fun D nD => ?_⟩
      refine lc_true (K := K) nD (walk_zipB (k := true) (j := false) (K := K) (a := wl) (b := ag) (xs := ws) (ys := gs) rfl) (by omega) (fun Hh s => ⟨Same.seq s (SqL.of ew5), Same.ext s _ _ gT⟩) ?_ ?_
      · rintro i x H6 H7 Q' hi s6 ⟨A', e, f, rfl, nA, rfl, ee, ef⟩ q'
        have ee2 : ws[i]? = some e := ee
        have ef2 : gs[i]? = some f := ef
        have s7 := same_new (o := .tup [e, f]) nA
        have s67 := s6.trans s7
        obtain ⟨hi2, de⟩ := rowsD_at (DenL.mono (Same.ext s67) dw5) ee2
        obtain ⟨q2, eq2, df⟩ := map_at1 (DenL.mono (Same.ext s67) gL) ef2
        have hwm : (vwalls r).getD i [] ∈ vwalls r := by rw [getD_of hi2]; exact List.getElem_mem hi2
        obtain ⟨ae, rfl, eT⟩ := de.wd
        have tA : SqT K (upd H6 A' (.tup [.ref ae, f])) A' [.ref ae, f] := .inl (.inl upd_same)
        generalize upd H6 A' (.tup [.ref ae, f]) = H7 at s7 s67 de df eT tA ⊢
        refine g_pair tA ⟨rfl, _, rfl, ae, _, rfl, .inr eT, _, rfl, szl (show 0 ≤ 1000000 by decide), fun z nz => ⟨_, rfl, _, rfl, ?_⟩⟩
        have s8 := same_new (o := .tup []) nz
        have lwl := (J.hB _ hwm).1
        refine ⟨_, .ref ar, .ref z, .ref ae, f, room p, (vwalls r).getD i [], q2.2.1, q2.1, q2.2.2, _, rfl, d15.mono (Same.ext (s67.trans s8)), ⟨z, [], rfl, .inl (.inl upd_same), rfl⟩, de.mono (Same.ext s8), df.mono (Same.ext s8), hps i q2 _ eq2 (by rw [List.getElem?_eq_getElem hi2, getD_of hi2]), J.hF, by omega, by omega, by omega, fun q3 hq => by rw [(J.hA q3 hq).1, lwl], fun q3 hq x hx => by have := (J.hA q3 hq).2 x hx; omega, fun x hx => by have := (J.hB _ hwm).2 x hx; omega, fun H9 s9 => q' _ (s7.trans (s8.trans s9))⟩
      · intro H6 bs s6 eD hb
        refine ⟨D, bs, rfl, SqL.of eD, ?_⟩
        rw [hb]
        exact q _ (s05.trans s6)
end
end K28
end
section
set_option Elab.async false
set_option linter.all false
set_option maxRecDepth 100000
set_option maxHeartbeats 4000000
set_option exponentiation.threshold 2000
namespace K28
open PySem L2
/-! values -/
abbrev VE := List (Str × Int)
def veD (l : VE) : NL := l.map fun p => (p.1, .i p.2)
def getV (l : VE) (x : Str) : Int := ((l.find? fun p => decide (p.1 = x)).map (·.2)).getD 0
def stVal (l : VE) (s : Stm) : Int := match s.op with
  | .times => s.fac * getV l s.other
  | .plus => getV l s.one + getV l s.other
  | .minus => getV l s.one - getV l s.other
def in0 (ins : List (Str × Kd)) (g : List Int) (i : Nat) : VE := (List.range i).map fun j => ((ins.getD j ("", ⟨true, 0⟩)).1, g.getD j 0)
def valsF (ins : List (Str × Kd)) (g : List Int) (b : List Stm) : VE := b.foldl (fun l s => l ++ [(s.name, stVal l s)]) (in0 ins g ins.length)
def valAt (p : Pg) (g : List Int) (i : Nat) : Int := match p.body[i]? with
  | some s => stVal (valsF p.ins g (p.body.take i)) s
  | none => 0
def ends_ (p : Pg) (b : Int) (g : List Int) : Bool := (List.range p.body.length).all fun i => fits (kdAt p.body i) (valAt p g i) b
theorem getL_veD {l : VE} {x : Str} (h : (getL (veD l) x).isSome = true) : getL (veD l) x = some (.i (getV l x)) := by
  unfold getV
  induction l with
  | nil => cases h
  | cons p l ih =>
    unfold veD at h ⊢
    rw [List.map_cons, getL_cons] at h ⊢
    rw [List.find?_cons]
    by_cases e : p.1 = x
    · simp [e]
    · simp only [e, if_false, decide_false] at h ⊢
      exact ih h
theorem names_veD (l : VE) : (veD l).map (·.1) = l.map (·.1) := by unfold veD; rw [List.map_map]; rfl
theorem names_in0 (ins : List (Str × Kd)) (g : List Int) : (in0 ins g ins.length).map (·.1) = ins.map (·.1) := by
  unfold in0
  rw [List.map_map]
  exact map_at ins ("", ⟨true, 0⟩) (fun p => p.1)
theorem names_valsF (ins : List (Str × Kd)) (g : List Int) (b : List Stm) : (valsF ins g b).map (·.1) = ins.map (·.1) ++ b.map (·.name) := by
  unfold valsF
  have : ∀ (b : List Stm) (l : VE), (b.foldl (fun l s => l ++ [(s.name, stVal l s)]) l).map (·.1) = l.map (·.1) ++ b.map (·.name) := by
    intro b
    induction b with
    | nil => intro l; simp
    | cons s b ih => intro l; rw [List.foldl_cons, ih]; simp
  rw [this, names_in0]
theorem knownV {ins : List (Str × Kd)} {g : List Int} {b : List Stm} {x : Str} : (getL (veD (valsF ins g b)) x).isSome = (getL (insL ins ++ stL b) x).isSome := by
  rw [Bool.eq_iff_iff, isSome_iff, isSome_iff, names_veD, names_valsF, names_stL]
theorem valsF_snoc {ins : List (Str × Kd)} {g : List Int} {b : List Stm} {i : Nat} {s : Stm} (e : b[i]? = some s) : valsF ins g (b.take (i + 1)) = valsF ins g (b.take i) ++ [(s.name, stVal (valsF ins g (b.take i)) s)] := by
  unfold valsF
  rw [List.take_add_one, e, List.foldl_append]; rfl
theorem veD_snoc {ins : List (Str × Kd)} {g : List Int} {b : List Stm} {i : Nat} {s : Stm} (e : b[i]? = some s) (h : getL (insL ins ++ stL (b.take i)) s.name = none) :
    putL (veD (valsF ins g (b.take i))) s.name (.i (stVal (valsF ins g (b.take i)) s)) = veD (valsF ins g (b.take (i + 1))) := by
  have : getL (veD (valsF ins g (b.take i))) s.name = none := by
    have := knownV (ins := ins) (g := g) (b := b.take i) (x := s.name)
    rw [h] at this
    cases e2 : getL (veD (valsF ins g (b.take i))) s.name with
    | none => rfl
    | some d => rw [e2] at this; cases this
  rw [putL_new this, valsF_snoc e]
  unfold veD
  rw [List.map_append]; rfl
theorem in0_snoc {ins : List (Str × Kd)} (nd : (ins.map (·.1)).Nodup) {g : List Int} {i : Nat} (hi : i < ins.length) : putL (veD (in0 ins g i)) (ins.getD i ("", ⟨true, 0⟩)).1 (.i (g.getD i 0)) = veD (in0 ins g (i + 1)) := by
  have e : getL (veD (in0 ins g i)) (ins.getD i ("", ⟨true, 0⟩)).1 = none := by
    rw [getL_none]
    intro p hp ep
    unfold veD in0 at hp
    rw [List.map_map] at hp
    obtain ⟨j, hj, rfl⟩ := List.mem_map.mp hp
    have hj := List.mem_range.mp hj
    have := List.pairwise_iff_getElem.mp nd j i (by simp; omega) (by simp; omega) hj
    rw [List.getElem_map, List.getElem_map] at this
    rw [getD_of hi] at ep
    simp only [Function.comp] at ep
    rw [getD_of (by omega : j < ins.length)] at ep
    exact this ep
  rw [putL_new e]
  unfold veD in0
  rw [List.range_succ, List.map_append, List.map_append]; rfl
theorem usesV {ins : List (Str × Kd)} {g : List Int} {b : List Stm} {s : Stm} (h : okRight (insL ins ++ stL b) s) : Uses (veD (valsF ins g b)) s := by
  obtain ⟨h1, h2, h3⟩ := h
  exact ⟨h1, fun z => by rw [knownV]; exact h2 z, by rw [knownV]; exact h3⟩
section
variable {P : Program} {w : World} {K : PySem.W.Frag} {mg : Str → Option Value} {base : Heap}
theorem sc_is_bound_value : FnScope ["thing"] ["thing"] (defScope (top 53)) := ⟨rfl, rfl, rfl, by decide +kernel, rfl, by decide +kernel, by decide +kernel⟩
def sp_is_bound_value : Sp := fun vs H Q _ => ∃ b : Int, vs = [.int b] ∧ 1 ≤ b ∧ Q (.bl true) H
theorem ok_is_bound_value (T : Tx K mg) : FnOk P w K mg base CX0 2 406 (fdA K 406) ["thing"] sp_is_bound_value := by
  refine (f_is_bound_value T).ok sc_is_bound_value (fun vs H Q E h => ?_) (fun cdv A outer s H vs Q E hr h => ⟨_, PSs.nox (pss_one (ps_ret (pe_and (pe_call (ok_is_integer T) (hr.mono (by decide)) (by rfl) (g_is_integer T) (f_is_integer T).kp (b_is_integer T) .nil pass0 (pa_cons (pv 0) pa_nil)) (pe_one (pe_cmpR op_ge (pv 0) pe_int (nomark _)))))), ?_⟩)
  · obtain ⟨b, rfl, _⟩ := h; rfl
  · obtain ⟨b, rfl, hb, q⟩ := h
    refine ⟨_, rfl, b, rfl, true, rfl, iteT ⟨_, rfl, _, _, rfl, rfl, ?_⟩⟩
    rw [show (fun i j : Int => V.bl (decide (j ≤ i))) b 1 = .bl true from congrArg V.bl (decide_eq_true hb)]
    exact q
/-- what a given must keep -/
structure GivenOk (p : Pg) (b : Int) (g : List Int) : Prop where
  len : g.length = p.ins.length
  fit : ∀ i, i < p.ins.length → fits (p.ins.getD i ("", ⟨true, 0⟩)).2 (g.getD i 0) b = true
  fact : ∀ q ∈ p.facts, getV (in0 p.ins g p.ins.length) q.1 ≤ getV (in0 p.ins g p.ins.length) q.2
theorem sc_is_given_value : FnScope ["program", "bound", "given", "values", "ins", "facts", "value", "name", "kind", "small", "large"] ["program", "bound", "given"] (defScope (top 54)) := ⟨rfl, rfl, rfl, by decide +kernel, rfl, by decide +kernel, by decide +kernel⟩
def sp_is_given_value (K : PySem.W.Frag) : Sp := fun vs H Q _ => ∃ (u v : V) (p : Pg) (b : Int) (g : List Int), vs = [u, .int b, v] ∧ PgAt K H p u ∧ PgOk p ∧ Den K H (wd g) v ∧ GivenOk p b g ∧ ∀ H', Same H H' → Q (.bl true) H'
theorem ok_is_given_value (T : Tx K mg) : FnOk P w K mg base CX0 3 411 (fdA K 411) ["program", "bound", "given"] (sp_is_given_value K) := by
  refine (f_is_given_value T).ok sc_is_given_value (fun vs H Q E h => ?_) (fun cdv A outer s H vs Q E hr h => ⟨_, PSs.nox (pss_cons (ps_asg (pe_slice (k_slT K) (pv 0) po_none (po_some pe_int)) (k_tgt K 2 rfl (pgs_cons (pg_name (i := 4) sc_is_given_value.nd rfl (.inl rfl) (hf := (.inl rfl))) (pgs_cons (pg_name (i := 5) sc_is_given_value.nd rfl (.inl rfl) (hf := (.inl rfl))) pgs_nil))))
  (pss_cons (ps_if (pt_not (pt_val (pe_call (ok_is_row_of T) (hr.mono (by decide)) (by rfl) (g_is_row_of T) (f_is_row_of T).kp (b_is_row_of T) .nil pass0 (pa_cons (pe_callB (k_len K) (by rfl) (free_len T) (by decide +kernel) (pa_cons (pv 4) pa_nil)) (pa_cons (pv 2) pa_nil))))) (pss_one (ps_ret pe_bl)) pss_nil)
  (pss_cons (ps_set (i := 3) sc_is_given_value.nd rfl (.inr rfl) pe_dnewK)
  (pss_cons (ps_for PassesOwn.never rfl (k_zip K false false (by rfl) (free_zip T) (pa_cons (pv 4) (pa_cons (pv 2) pa_nil))) (k_tgt K 2 rfl (pgs_cons (k_tgt K 2 rfl (pgs_cons (pg_name (i := 7) sc_is_given_value.nd rfl (.inl rfl) (hf := (.inl rfl))) (pgs_cons (pg_name (i := 8) sc_is_given_value.nd rfl (.inl rfl) (hf := (.inl rfl))) pgs_nil))) (pgs_cons (pg_name (i := 6) sc_is_given_value.nd rfl (.inl rfl) (hf := (.inl rfl))) pgs_nil)))
    (pss_cons (ps_if (pt_not (pt_val (pe_call (ok_fits_kind T) (hr.mono (by decide)) (by rfl) (g_fits_kind T) (f_fits_kind T).kp (b_fits_kind T) .nil pass0 (pa_cons (pv 6) (pa_cons (pv 8) (pa_cons (pv 1) pa_nil)))))) (pss_one (ps_ret pe_bl)) pss_nil)
  (pss_one (ps_dput (hu_of hr) (pv 3) (pv 7) (pv 6) rfl))))
  (pss_one (ps_ret (pe_callB (k_all K rfl) (by rfl) (free_all T) (by decide +kernel) (pa_cons (pe_lc (own := [("small", 9), ("large", 10)]) rfl sc_is_given_value.nd (k_pit K (pv 5)) (blkOk_by (N := ["program", "bound", "given", "values", "ins", "facts", "value", "name", "kind", "small", "large"]) (sc := (defScope (top 54))) (by decide +kernel)) (fun _ _ _ _ _ => (k_tgt K 2 rfl (pgs_cons (pg_name (i := 9) sc_is_given_value.nd rfl (.inl rfl) (hf := (.inr rfl))) (pgs_cons (pg_name (i := 10) sc_is_given_value.nd rfl (.inl rfl) (hf := (.inr rfl))) pgs_nil)))) (fun _ _ _ _ _ => pts_nil) (fun _ _ _ _ _ => (pe_cmpR op_le (pe_dget (hu_of hr) (pv 3) (pv 9) (fun _ _ => rfl)) (pe_dget (hu_of hr) (pv 3) (pv 10) (fun _ _ => rfl)) (nomark _)))) pa_nil)))))))), ?_⟩)
  · obtain ⟨u, v, p, b, g, rfl, _⟩ := h; rfl
  · obtain ⟨u, v, p, b, g, rfl, ⟨a, x1, x2, x3, x4, rfl, hp⟩, ok, hg, G, q⟩ := h
    obtain ⟨ag, rfl, gT⟩ := hg.wd
    have gl := G.len
    have i2 := ok.ins.in2
    refine ⟨_, rfl, _, rfl, use_sl hp.tup fun c H1 s1 hc => ?_⟩
    rw [show cutV [x1, x2, x3, x4] none (some 2) = [x1, x2] from cut_take (k := 2) (show 2 ≤ 4 by decide)] at hc
    refine g_pair hc ?_
    obtain ⟨ai, us, rfl, iT, iL⟩ := (hp.ins.den).mono (Same.ext s1)
    obtain ⟨af, fs, rfl, fT, fL⟩ := hp.facts.mono (Same.ext s1)
    have ln := iL.length
    rw [List.length_map] at ln
    have lf := fL.length
    rw [List.length_map] at lf
    have f1 := ok.facts.f1
    refine ⟨_, rfl, ai, us, rfl, .inr iT, _, rfl, ?_⟩
    refine ⟨_, _, g, rfl, hg.mono (Same.ext s1), by omega, fun H2 s2 => ?_⟩
    rw [decide_eq_true (by omega : (g.length : Int) = (us.length : Int))]
    refine ⟨true, rfl, iteF fun d nd => ?_⟩
    have s3 := s2.trans (same_new (o := .dK []) nd)
    have iT3 := Same.ext s3 _ _ iT
    have gT3 := Same.ext (s1.trans s3) _ _ gT
    refine ⟨_, rfl, _, rfl, ai, ag, us, _, rfl, iT3, gT3, ?_⟩
    refine for_it (n := p.ins.length) (walk_zipB (k := false) (j := false) (K := K) (a := ai) (b := ag) (xs := us) (ys := g.map V.int) (by rw [List.length_map]; omega))
      (fun i σ H' => (∃ o6 o7 o8 o9 o10, σ = [some (.ref a), some (.int b), some (.ref ag), some (.ref d), some (.ref ai), some (.ref af), o6, o7, o8, o9, o10]) ∧ Same H2 H' ∧ DD K H' d (veD (in0 p.ins g i)))
      ⟨⟨_, _, _, _, _, rfl⟩, same_new nd, DD.new⟩ (fun i σ H' _ h => ⟨Same.ext (s2.trans h.2.1) _ _ iT, Same.ext (s1.trans (s2.trans h.2.1)) _ _ gT⟩) ?_ ?_
    · rintro i x σ H4 H5 hi ⟨⟨o6, o7, o8, o9, o10, rfl⟩, s4, hd⟩ ⟨A', e, f, rfl, nA, rfl, ee, ef⟩
      have ee2 : us[i]? = some e := ee
      have ef2 : (g.map V.int)[i]? = some f := ef
      obtain ⟨rfl, hi2⟩ := int_get ef2
      have s5 := same_new (o := .tup [e, .int (g.getD i 0)]) nA
      have tA : SqT K (upd H4 A' (.tup [e, .int (g.getD i 0)])) A' [e, .int (g.getD i 0)] := .inl (.inl upd_same)
      obtain ⟨r, er, dr⟩ := map_at1 (DenL.mono (Same.ext (s2.trans (s4.trans s5))) iL) ee2
      obtain ⟨ar, y, rfl, rT, dy⟩ := in_den dr
      have hd5 := hd.same s5
      have s45 := s4.trans s5
      generalize upd H4 A' (.tup [.ref ar, .int (g.getD i 0)]) = H5 at s5 tA rT dy hd5 s45 ⊢
      have er2 : p.ins.getD i ("", ⟨true, 0⟩) = r := by rw [List.getD_eq_getElem?_getD, er]; rfl
      refine ⟨A', _, rfl, tA, rfl, _, _, rfl, ⟨ar, _, rfl, rT, rfl, _, _, rfl, _, _, rfl, rfl, _, _, rfl, rfl, ?_⟩⟩
      have hf := G.fit i hi
      rw [er2] at hf
      have hk := of_decide_eq_true (ok.ins.nm r (List.mem_of_getElem? er)).2
      refine ⟨_, rfl, _, rfl, _, rfl, _, b, y, r.2, rfl, dy, by omega, ?_⟩
      rw [hf]
      refine ⟨true, rfl, iteF ?_⟩
      have li : (veD (in0 p.ins g i)).length = i := by unfold veD in0; simp
      obtain ⟨kv, hput, hd6⟩ := hd5.put (x := r.1) (d := .i (g.getD i 0)) (v := .int (g.getD i 0)) rfl (by omega)
      refine ⟨_, rfl, _, rfl, _, rfl, d, _, rfl, hput, ⟨_, _, _, _, _, rfl⟩, same_upd s45 nd, ?_⟩
      rw [← er2, in0_snoc ok.ins.nd hi] at hd6
      exact hd6
    · rintro σ H4 ⟨⟨o6, o7, o8, o9, o10, rfl⟩, s4, hd⟩
      have fT4 := Same.ext (s2.trans s4) _ _ fT
      have fL4 := DenL.mono (Same.ext (s2.trans s4)) fL
      refine ⟨_, rfl, af, rfl, ⟨_, fT4⟩, fun D nD => lc_true (K := K) nD (walk_tup (K := K) (a := af) (xs := fs)) (by omega) (fun Hh s => Same.ext s _ _ fT4) ?_ ?_⟩
      · rintro i x H5 H6 Q' hi s5 ⟨rfl, ex⟩ q'
        obtain ⟨r, er, dr⟩ := map_at1 (DenL.mono (Same.ext s5) fL4) ex
        obtain ⟨c2, rfl, cT⟩ := ft_den dr
        have rm := List.mem_of_getElem? er
        have fr := ok.facts.f2 r rm
        have kn : ∀ x, x ∈ p.ins.map (·.1) → (getL (veD (in0 p.ins g p.ins.length)) x).isSome = true := fun x hx => by rw [isSome_iff, names_veD, names_in0]; exact hx
        obtain ⟨v1, g1, d1⟩ := (hd.same s5).get (getL_veD (kn r.1 fr.1))
        obtain ⟨v2, g2, d2⟩ := (hd.same s5).get (getL_veD (kn r.2 fr.2.1))
        obtain rfl : v1 = .int _ := d1
        obtain rfl : v2 = .int _ := d2
        refine g_pair cT ⟨rfl, _, rfl, _, rfl, d, _, rfl, g1, _, rfl, _, rfl, d, _, rfl, g2, _, _, rfl, rfl, ?_⟩
        have e := q' _ (Same.refl _)
        rw [← decide_eq_true (G.fact r rm)] at e
        exact e
      · intro H5 bs s5 eD hb
        refine ⟨D, bs, rfl, SqL.of eD, ?_⟩
        rw [hb]
        exact q _ (s1.trans (s2.trans (s4.trans s5)))
theorem sc_need_given : FnScope ["program", "bound", "given"] ["program", "bound", "given"] (defScope (top 55)) := ⟨rfl, rfl, rfl, by decide +kernel, rfl, by decide +kernel, by decide +kernel⟩
def sp_need_given (K : PySem.W.Frag) : Sp := fun vs H Q _ => ∃ (u v : V) (p : Pg) (b : Int) (g : List Int), vs = [u, .int b, v] ∧ PgAt K H p u ∧ PgOk p ∧ Den K H (wd g) v ∧ GivenOk p b g ∧ 1 ≤ b ∧ ∀ H', Same H H' → Q .non H'
theorem ok_need_given (T : Tx K mg) : FnOk P w K mg base CX0 4 418 (fdA K 418) ["program", "bound", "given"] (sp_need_given K) := by
  refine (f_need_given T).ok sc_need_given (fun vs H Q E h => ?_) (fun cdv A outer s H vs Q E hr h => ⟨_, PSs.nox (pss_cons (ps_if (pt_not (pt_val (pe_call (ok_is_bound_value T) (hr.mono (by decide)) (by rfl) (g_is_bound_value T) (f_is_bound_value T).kp (b_is_bound_value T) .nil pass0 (pa_cons (pv 1) pa_nil)))) (pss_one ps_never) pss_nil)
  (pss_one (ps_if (pt_not (pt_val (pe_call (ok_is_given_value T) (hr.mono (by decide)) (by rfl) (g_is_given_value T) (f_is_given_value T).kp (b_is_given_value T) .nil pass0 (pa_cons (pv 0) (pa_cons (pv 1) (pa_cons (pv 2) pa_nil)))))) (pss_one ps_never) pss_nil))), ?_⟩)
  · obtain ⟨u, v, p, b, g, rfl, _⟩ := h; rfl
  · obtain ⟨u, v, p, b, g, rfl, hp, ok, hg, G, hb, q⟩ := h
    refine ⟨_, rfl, b, rfl, hb, true, rfl, iteF ?_⟩
    exact ⟨_, rfl, _, rfl, _, rfl, u, v, p, b, g, rfl, hp, ok, hg, G, fun H1 s1 => ⟨true, rfl, iteF (q _ s1)⟩⟩
theorem sc_reckoned : FnScope ["statement", "values", "word", "name", "kind", "one", "other"] ["statement", "values"] (defScope (top 88)) := ⟨rfl, rfl, rfl, by decide +kernel, rfl, by decide +kernel, by decide +kernel⟩
def sp_reckoned (K : PySem.W.Frag) : Sp := fun vs H Q _ => ∃ (v : V) (d : Addr) (p : Stm) (l : VE), vs = [v, .ref d] ∧ Den K H p.d v ∧ DD K H d (veD l) ∧ Uses (veD l) p ∧ Q (.int (stVal l p)) H
theorem ok_reckoned (T : Tx K mg) : FnOk P w K mg base CX0 1 589 (fdA K 589) ["statement", "values"] (sp_reckoned K) := by
  refine (f_reckoned T).ok sc_reckoned (fun vs H Q E h => ?_) (fun cdv A outer s H vs Q E hr h => ⟨_, PSs.nox (pss_cons (ps_asg (pv 0) (k_tgt K 5 rfl (pgs_cons (pg_name (i := 2) sc_reckoned.nd rfl (.inl rfl) (hf := (.inl rfl))) (pgs_cons (pg_name (i := 3) sc_reckoned.nd rfl (.inl rfl) (hf := (.inl rfl))) (pgs_cons (pg_name (i := 4) sc_reckoned.nd rfl (.inl rfl) (hf := (.inl rfl))) (pgs_cons (pg_name (i := 5) sc_reckoned.nd rfl (.inl rfl) (hf := (.inl rfl))) (pgs_cons (pg_name (i := 6) sc_reckoned.nd rfl (.inl rfl) (hf := (.inl rfl))) pgs_nil)))))))
  (pss_cons (ps_if (pt_cmpR op_eq (pv 2) pe_str (nomark _)) (pss_one (ps_ret (pe_op op_mul (pv 5) (pe_dget (hu_of hr) (pv 1) (pv 6) (fun _ _ => rfl))))) pss_nil)
  (pss_cons (ps_if (pt_cmpR op_eq (pv 2) pe_str (nomark _)) (pss_one (ps_ret (pe_op op_add (pe_dget (hu_of hr) (pv 1) (pv 5) (fun _ _ => rfl)) (pe_dget (hu_of hr) (pv 1) (pv 6) (fun _ _ => rfl))))) pss_nil)
  (pss_cons (ps_if (pt_cmpR op_eq (pv 2) pe_str (nomark _)) (pss_one (ps_ret (pe_op op_sub (pe_dget (hu_of hr) (pv 1) (pv 5) (fun _ _ => rfl)) (pe_dget (hu_of hr) (pv 1) (pv 6) (fun _ _ => rfl))))) pss_nil)
  (pss_one (ps_ret (pe_ifExp (pt_cmpR op_eq (pv 2) pe_str (nomark _)) (pe_callB (call_min2 rfl) (by rfl) (free_min T) (by decide +kernel) (pa_cons (pe_dget (hu_of hr) (pv 1) (pv 5) (fun _ _ => rfl)) (pa_cons (pe_dget (hu_of hr) (pv 1) (pv 6) (fun _ _ => rfl)) pa_nil))) (pe_callB (call_max2 rfl) (by rfl) (free_max T) (by decide +kernel) (pa_cons (pe_dget (hu_of hr) (pv 1) (pv 5) (fun _ _ => rfl)) (pa_cons (pe_dget (hu_of hr) (pv 1) (pv 6) (fun _ _ => rfl)) pa_nil)))))))))), ?_⟩)
  · obtain ⟨v, d, p, l, rfl, _⟩ := h; rfl
  · obtain ⟨v, d, p, l, rfl, hp, hd, hu, q⟩ := h
    obtain ⟨ap, y, m, rfl, pT, hy, hm⟩ := st_den hp
    refine ⟨_, rfl, ap, _, rfl, pT, rfl, _, _, rfl, _, _, rfl, _, _, rfl, _, _, rfl, _, _, rfl, rfl, ?_⟩
    obtain ⟨vo, go, dvo⟩ := hd.get (getL_veD hu.2.2)
    obtain rfl : vo = .int _ := dvo
    unfold stVal at q
    cases e : p.op with
    | times =>
      rw [e] at q
      obtain rfl := mid_int hm e
      have hf := hu.1 e
      refine ⟨_, rfl, rfl, true, rfl, iteT ?_⟩
      exact ⟨_, rfl, _, rfl, _, rfl, d, _, rfl, go, _, _, rfl, rfl, .inl (by omega), q⟩
    | plus =>
      rw [e] at q
      obtain rfl := mid_str hm (by rw [e]; decide)
      obtain ⟨v1, g1, dv1⟩ := hd.get (getL_veD (hu.2.1 (by rw [e]; decide)))
      obtain rfl : v1 = .int _ := dv1
      refine ⟨_, rfl, rfl, false, rfl, iteF ⟨_, rfl, rfl, true, rfl, iteT ?_⟩⟩
      exact ⟨_, rfl, _, rfl, d, _, rfl, g1, _, rfl, _, rfl, d, _, rfl, go, _, _, rfl, rfl, q⟩
    | minus =>
      rw [e] at q
      obtain rfl := mid_str hm (by rw [e]; decide)
      obtain ⟨v1, g1, dv1⟩ := hd.get (getL_veD (hu.2.1 (by rw [e]; decide)))
      obtain rfl : v1 = .int _ := dv1
      refine ⟨_, rfl, rfl, false, rfl, iteF ⟨_, rfl, rfl, false, rfl, iteF ⟨_, rfl, rfl, true, rfl, iteT ?_⟩⟩⟩
      exact ⟨_, rfl, _, rfl, d, _, rfl, g1, _, rfl, _, rfl, d, _, rfl, go, _, _, rfl, rfl, q⟩
end
end K28
end
section
set_option Elab.async false
set_option linter.all false
set_option maxRecDepth 100000
set_option maxHeartbeats 4000000
set_option exponentiation.threshold 2000
namespace K28
open PySem L2
theorem all_false {n i : Nat} {f : Nat → Bool} (hi : i < n) (h : f i = false) : (List.range n).all f = false := by
  cases e : (List.range n).all f with
  | false => rfl
  | true =>
    have := List.all_eq_true.mp e i (List.mem_range.mpr hi)
    rw [h] at this; cases this
theorem kdAt_eq {b : List Stm} {i : Nat} {s : Stm} (e : b[i]? = some s) : kdAt b i = s.kd := by unfold kdAt; rw [e]
theorem valAt_eq {p : Pg} {g : List Int} {i : Nat} {s : Stm} (e : p.body[i]? = some s) : valAt p g i = stVal (valsF p.ins g (p.body.take i)) s := by unfold valAt; rw [e]
section
variable {P : Program} {w : World} {K : PySem.W.Frag} {mg : Str → Option Value} {base : Heap}
theorem sc_gone_through : FnScope ["body", "number", "values", "bound", "told", "statement", "first", "value", "arm", "begin"] ["body", "number", "values", "bound", "told"] (defScope (top 89)) := ⟨rfl, rfl, rfl, by decide +kernel, rfl, by decide +kernel, by decide +kernel⟩
/-- the last told -/
def ToldAt (K : PySem.W.Frag) (H : Hp) (tl : Addr) (i : Nat) : Prop := ∃ xs, H tl = some (.lst xs) ∧ xs.length = i ∧ (0 < i → ∃ t a b, xs[i - 1]? = some (.ref t) ∧ SqT K H t [a, b])
def sp_gone_through (K : PySem.W.Frag) : Sp := fun vs H Q _ => ∃ (H0 : Hp) (v : V) (d tl : Addr) (p : Pg) (b : Int) (g : List Int), vs = [v, .int 0, .ref d, .int b, .ref tl] ∧ Den K H0 (bodyD p.body) v ∧ PgOk p ∧ DD K H d (veD (valsF p.ins g [])) ∧ H tl = some (.lst []) ∧ d ≠ tl ∧ H0 d = none ∧ H0 tl = none ∧ Same H0 H ∧
  ∀ e H', Same H0 H' → e = ends_ p b g → (e = true → DD K H' d (veD (valsF p.ins g p.body))) → (∃ i, ToldAt K H' tl i ∧ (e = false → 0 < i)) → Q (.bl e) H'
theorem ok_gone_through (T : Tx K mg) : FnOk P w K mg base CX0 3 596 (fdA K 596) ["body", "number", "values", "bound", "told"] (sp_gone_through K) := by
  refine (f_gone_through T).ok sc_gone_through (fun vs H Q E h => ?_) (fun cdv A outer s H vs Q E hr h => ⟨_, PSs.nox (pss_cons (ps_for PassesOwn.never rfl (k_pit K (pv 0)) (pg_name (i := 5) sc_gone_through.nd rfl (.inl rfl) (hf := (.inl rfl)))
    (pss_cons (ps_if (pt_cmpR op_eq (pe_ix (k_ixT K) (pv 5) pe_int (fun _ _ => rfl)) pe_str (nomark _)) pss_never (pss_cons (ps_set (i := 7) sc_gone_through.nd rfl (.inl rfl) (pe_call (ok_reckoned T) (hr.mono (by decide)) (by rfl) (g_reckoned T) (f_reckoned T).kp (b_reckoned T) .nil pass0 (pa_cons (pv 5) (pa_cons (pv 2) pa_nil))))
  (pss_cons (ps_expr (pe_bm PySem.F.plainAttrs_list PySem.F.slot_list_append PySem.F.type_list_append mt_append (pv 4) (pa_cons (pe_tup (pa_cons (pv 1) (pa_cons (pv 7) pa_nil))) pa_nil)))
  (pss_cons (ps_dput (hu_of hr) (pv 2) (pe_ix (k_ixT K) (pv 5) pe_int (fun _ _ => rfl)) (pv 7) rfl)
  (pss_one (ps_if (pt_not (pt_val (pe_call (ok_fits_kind T) (hr.mono (by decide)) (by rfl) (g_fits_kind T) (f_fits_kind T).kp (b_fits_kind T) .nil pass0 (pa_cons (pv 7) (pa_cons (pe_ix (k_ixT K) (pv 5) pe_int (fun _ _ => rfl)) (pa_cons (pv 3) pa_nil)))))) (pss_one (ps_ret pe_bl)) pss_nil))))))
  (pss_one (ps_aug (i := 1) sc_gone_through.nd rfl (.inl rfl) (pe_call (ok_items_in T) (hr.mono (by decide)) (by rfl) (g_items_in T) (f_items_in T).kp (b_items_in T) .nil pass0 (pa_cons (pe_tup (pa_cons (pv 5) pa_nil)) pa_nil)) ip_add))))
  (pss_one (ps_ret pe_bl))), ?_⟩)
  · obtain ⟨H0, v, d, tl, p, b, g, rfl, _⟩ := h; rfl
  · obtain ⟨H0, v, d, tl, p, b, g, rfl, ⟨a, us, rfl, aT, aL⟩, ok, hd, ht, ne, n1, n2, s0, q⟩ := h
    have ln := aL.length
    rw [List.length_map] at ln
    have bl := ok.blen
    have i2 := ok.ins.in2
    refine ⟨_, rfl, a, rfl, ⟨us, Same.ext s0 _ _ aT⟩, ?_⟩
    refine for_it (walk_tup (K := K) (a := a) (xs := us)) (fun i σ H' => (∃ o5 o6 o7 o8 o9, σ = [some (.ref a), some (.int (i : Int)), some (.ref d), some (.int b), some (.ref tl), o5, o6, o7, o8, o9]) ∧ Same H0 H' ∧ DD K H' d (veD (valsF p.ins g (p.body.take i))) ∧ ToldAt K H' tl i ∧ ∀ j, j < i → fits (kdAt p.body j) (valAt p g j) b = true)
      ⟨⟨_, _, _, _, _, rfl⟩, s0, hd, ⟨[], ht, rfl, fun z => absurd z (Nat.lt_irrefl _)⟩, fun j hj => absurd hj (Nat.not_lt_zero _)⟩ (fun i σ H' _ h => Same.ext h.2.1 _ _ aT) ?_ ?_
    · rintro i x σ H1 H2 hi ⟨⟨o5, o6, o7, o8, o9, rfl⟩, s1, hd1, ⟨xs, ex1, lx, lst⟩, hfit⟩ ⟨rfl, ex⟩
      obtain ⟨st, est, dst⟩ := map_at1 (DenL.mono (Same.ext s1) aL) ex
      have okp := ok.body i st est
      have hi2 : i < p.body.length := (List.getElem?_eq_some_iff.mp est).1
      obtain ⟨ap, y, m, rfl, pT, hy, hm⟩ := st_den dst
      refine ⟨_, rfl, ap, _, _, _, rfl, rfl, pT, rfl, rfl, false, ?_, iteF ?_⟩
      · cases st.op <;> rfl
      refine ⟨_, rfl, _, rfl, .ref ap, d, st, valsF p.ins g (p.body.take i), rfl, dst, hd1, usesV okp.right, ?_⟩
      rw [← valAt_eq est]
      refine ⟨_, rfl, .inl ⟨rfl, _, SqL.of ex1⟩, _, rfl, _, rfl, szl (show 2 ≤ 1000000 by decide), fun t nt => ?_⟩
      have s2 := same_new (o := .tup [.int (i : Int), .int (valAt p g i)]) nt
      have ex2 := s2 _ _ ex1
      have hd2 := hd1.same s2
      refine ⟨tl, xs, _, rfl, rfl, ex2, szlt (by omega), ?_⟩
      have x3 : ExT K (upd H2 t (.tup [.int (i : Int), .int (valAt p g i)])) (upd (upd H2 t (.tup [.int (i : Int), .int (valAt p g i)])) tl (.lst (xs ++ [.ref t]))) := ext_upd ex2 rfl
      have s3 : Same H0 (upd (upd H2 t (.tup [.int (i : Int), .int (valAt p g i)])) tl (.lst (xs ++ [.ref t]))) := same_upd (s1.trans s2) n2
      have hd3 := hd2.mono x3 (upd_ne ne)
      have tT3 := x3 t _ (.inl (.inl upd_same))
      have pT3 := x3 _ _ (Same.ext s2 _ _ pT)
      have hy3 := (hy.mono (Same.ext s2)).mono x3
      have dst3 := (dst.mono (Same.ext s2)).mono x3
      have ex3 : upd (upd H2 t (.tup [.int (i : Int), .int (valAt p g i)])) tl (.lst (xs ++ [.ref t])) tl = some (.lst (xs ++ [.ref t])) := upd_same
      generalize upd (upd H2 t (.tup [.int (i : Int), .int (valAt p g i)])) tl (.lst (xs ++ [.ref t])) = H3 at s3 hd3 tT3 pT3 hy3 dst3 ex3 ⊢
      have lve : (veD (valsF p.ins g (p.body.take i))).length ≤ 1000 := by
        have e := congrArg List.length (names_valsF p.ins g (p.body.take i))
        unfold veD
        rw [List.length_map]
        simp at e
        omega
      obtain ⟨kv, hput, hd4⟩ := hd3.put (x := st.name) (d := .i (valAt p g i)) (v := .int (valAt p g i)) rfl lve
      refine ⟨_, rfl, _, rfl, _, rfl, ap, _, _, _, rfl, rfl, pT3, rfl, d, _, rfl, hput, ?_⟩
      rw [valAt_eq est, veD_snoc est okp.new] at hd4
      have x4 := DD.ext (kvs := kv) hd3
      have s4 : Same H0 (upd H3 d (.dK kv)) := same_upd s3 n1
      have ex4 : upd H3 d (.dK kv) tl = some (.lst (xs ++ [.ref t])) := by rw [upd_ne (fun z => ne z.symm)]; exact ex3
      have tT4 := x4 _ _ tT3
      have pT4 := x4 _ _ pT3
      have hy4 := hy3.mono x4
      have dst4 := dst3.mono x4
      generalize upd H3 d (.dK kv) = H4 at s4 ex4 tT4 pT4 hy4 dst4 hd4 ⊢
      have hk := of_decide_eq_true okp.kd
      have told : ToldAt K H4 tl (i + 1) := ⟨_, ex4, by rw [List.length_append, lx]; rfl, fun _ => ⟨t, _, _, by rw [Nat.add_sub_cancel, List.getElem?_append_right (by omega), lx, Nat.sub_self]; rfl, tT4⟩⟩
      refine ⟨_, rfl, _, rfl, ap, _, _, _, rfl, rfl, pT4, rfl, _, rfl, valAt p g i, b, y, st.kd, rfl, hy4, by omega, _, rfl, lastB _ (fun k => ?_) (fun k => ?_)⟩
      · have k' : fits st.kd (valAt p g i) b = false := by
          cases e : fits st.kd (valAt p g i) b with
          | false => rfl
          | true => rw [e] at k; cases k
        refine q false H4 s4 ?_ (fun z => by cases z) ⟨i + 1, told, fun _ => Nat.succ_pos _⟩
        exact (all_false hi2 (by rw [kdAt_eq est]; exact k')).symm
      · have k' : fits st.kd (valAt p g i) b = true := by
          cases e : fits st.kd (valAt p g i) b with
          | true => rfl
          | false => rw [e] at k; cases k
        refine ⟨_, rfl, _, rfl, szl (show 1 ≤ 1000000 by decide), fun t2 nt2 => ?_⟩
        refine ⟨.ref t2, [st], rfl, den_new nt2 (denL_one dst4), (show 1 ≤ 1000 by decide), fun H5 s5 => ?_⟩
        have s45 := (same_new (o := .tup [.ref ap]) nt2).trans s5
        refine ⟨_, _, rfl, rfl, ⟨_, _, _, _, _, rfl⟩, s4.trans s45, hd4.same s45, ?_, fun j hj => ?_⟩
        · obtain ⟨ys, e1, e2, e3⟩ := told
          refine ⟨ys, s45 _ _ e1, e2, fun z => ?_⟩
          obtain ⟨t', a', b', e4, e5⟩ := e3 z
          exact ⟨t', a', b', e4, Same.ext s45 _ _ e5⟩
        · by_cases e : j = i
          · rw [e, kdAt_eq est]; exact k'
          · exact hfit j (by omega)
    · rintro σ H1 ⟨⟨o5, o6, o7, o8, o9, rfl⟩, s1, hd1, told, hfit⟩
      rw [ln] at hfit told
      rw [ln, List.take_length] at hd1
      have e : ends_ p b g = true := List.all_eq_true.mpr fun j hj => hfit j (List.mem_range.mp hj)
      exact q true H1 s1 e.symm (fun _ => hd1) ⟨_, told, fun z => by cases z⟩
theorem sc_traced : FnScope ["program", "bound", "given", "does_end", "values", "told", "value", "name", "kind"] ["program", "bound", "given"] (defScope (top 90)) := ⟨rfl, rfl, rfl, by decide +kernel, rfl, by decide +kernel, by decide +kernel⟩
def sp_traced (K : PySem.W.Frag) : Sp := fun vs H Q _ => ∃ (u v : V) (p : Pg) (b : Int) (g : List Int), vs = [u, .int b, v] ∧ PgAt K H p u ∧ PgOk p ∧ Den K H (wd g) v ∧ g.length = p.ins.length ∧
  ∀ t d tl H', Same H H' → SqT K H' t [.bl (ends_ p b g), .ref tl, .ref d] → (ends_ p b g = true → DD K H' d (veD (valsF p.ins g p.body))) → (∃ i, ToldAt K H' tl i ∧ (ends_ p b g = false → 0 < i)) → Q (.ref t) H'
theorem ok_traced (T : Tx K mg) : FnOk P w K mg base CX0 4 603 (fdA K 603) ["program", "bound", "given"] (sp_traced K) := by
  refine (f_traced T).ok sc_traced (fun vs H Q E h => ?_) (fun cdv A outer s H vs Q E hr h => ⟨_, PSs.nox (pss_cons (ps_par (i := 4) (j := 5) rfl sc_traced.nd rfl rfl (by decide) rfl rfl (pa_cons pe_dnewK (pa_cons (pe_lst pa_nil) pa_nil)) (by rfl))
  (pss_cons (ps_for PassesOwn.never rfl (k_zip K false false (by rfl) (free_zip T) (pa_cons (pe_ix (k_ixT K) (pv 0) pe_int (fun _ _ => rfl)) (pa_cons (pv 2) pa_nil))) (k_tgt K 2 rfl (pgs_cons (k_tgt K 2 rfl (pgs_cons (pg_name (i := 7) sc_traced.nd rfl (.inl rfl) (hf := (.inl rfl))) (pgs_cons (pg_name (i := 8) sc_traced.nd rfl (.inl rfl) (hf := (.inl rfl))) pgs_nil))) (pgs_cons (pg_name (i := 6) sc_traced.nd rfl (.inl rfl) (hf := (.inl rfl))) pgs_nil)))
    (pss_one (ps_dput (hu_of hr) (pv 4) (pv 7) (pv 6) rfl)))
  (pss_cons (ps_set (i := 3) sc_traced.nd rfl (.inl rfl) (pe_call (ok_gone_through T) (hr.mono (by decide)) (by rfl) (g_gone_through T) (f_gone_through T).kp (b_gone_through T) .nil pass0 (pa_cons (pe_ix (k_ixT K) (pv 0) pe_int (fun _ _ => rfl)) (pa_cons pe_int (pa_cons (pv 4) (pa_cons (pv 1) (pa_cons (pv 5) pa_nil)))))))
  (pss_one (ps_ret (pe_tup (pa_cons (pv 3) (pa_cons (pv 5) (pa_cons (pv 4) pa_nil))))))))), ?_⟩)
  · obtain ⟨u, v, p, b, g, rfl, _⟩ := h; rfl
  · obtain ⟨u, v, p, b, g, rfl, ⟨a, x1, x2, x3, x4, rfl, hp⟩, ok, hg, gl, q⟩ := h
    obtain ⟨ag, rfl, gT⟩ := hg.wd
    have i2 := ok.ins.in2
    refine fun d nd => ⟨szl (show 0 ≤ 1000000 by decide), fun tl ntl => ⟨_, _, rfl, ?_⟩⟩
    have s1 := (same_new (o := .dK []) nd).trans (same_new (o := .lst []) ntl)
    have ne : d ≠ tl := ne_of_none upd_same ntl
    have ntl0 : H tl = none := noneBack ntl (same_new nd)
    have hd1 : DD K (upd (upd H d (.dK [])) tl (.lst [])) d (veD (in0 p.ins g 0)) := DD.new.same (same_new ntl)
    have htl : upd (upd H d (.dK [])) tl (.lst []) tl = some (.lst []) := upd_same
    generalize upd (upd H d (.dK [])) tl (.lst []) = H1 at s1 hd1 htl ⊢
    obtain ⟨ai, us, rfl, iT, iL⟩ := hp.ins.den
    have ln := iL.length
    rw [List.length_map] at ln
    refine ⟨_, rfl, a, _, _, _, rfl, rfl, Same.ext s1 _ _ hp.tup, rfl, _, rfl, ai, ag, us, _, rfl, Same.ext s1 _ _ iT, Same.ext s1 _ _ gT, ?_⟩
    refine for_it (n := p.ins.length) (walk_zipB (k := false) (j := false) (K := K) (a := ai) (b := ag) (xs := us) (ys := g.map V.int) (by rw [List.length_map]; omega))
      (fun i σ H' => (∃ o3 o6 o7 o8, σ = [some (.ref a), some (.int b), some (.ref ag), o3, some (.ref d), some (.ref tl), o6, o7, o8]) ∧ Same H H' ∧ DD K H' d (veD (in0 p.ins g i)) ∧ H' tl = some (.lst []))
      ⟨⟨_, _, _, _, rfl⟩, s1, hd1, htl⟩ (fun i σ H' _ h => ⟨Same.ext h.2.1 _ _ iT, Same.ext h.2.1 _ _ gT⟩) ?_ ?_
    · rintro i x σ H4 H5 hi ⟨⟨o3, o6, o7, o8, rfl⟩, s4, hd, htl4⟩ ⟨A', e, f, rfl, nA, rfl, ee, ef⟩
      have ee2 : us[i]? = some e := ee
      have ef2 : (g.map V.int)[i]? = some f := ef
      obtain ⟨rfl, hi2⟩ := int_get ef2
      have s5 := same_new (o := .tup [e, .int (g.getD i 0)]) nA
      have tA : SqT K (upd H4 A' (.tup [e, .int (g.getD i 0)])) A' [e, .int (g.getD i 0)] := .inl (.inl upd_same)
      obtain ⟨r, er, dr⟩ := map_at1 (DenL.mono (Same.ext (s4.trans s5)) iL) ee2
      obtain ⟨ar, y, rfl, rT, dy⟩ := in_den dr
      have hd5 := hd.same s5
      have s45 := s4.trans s5
      have htl5 := s5 _ _ htl4
      generalize upd H4 A' (.tup [.ref ar, .int (g.getD i 0)]) = H5 at s5 tA rT dy hd5 s45 htl5 ⊢
      have er2 : p.ins.getD i ("", ⟨true, 0⟩) = r := by rw [List.getD_eq_getElem?_getD, er]; rfl
      refine ⟨A', _, rfl, tA, rfl, _, _, rfl, ⟨ar, _, rfl, rT, rfl, _, _, rfl, _, _, rfl, rfl, _, _, rfl, rfl, ?_⟩⟩
      have li : (veD (in0 p.ins g i)).length = i := by unfold veD in0; simp
      obtain ⟨kv, hput, hd6⟩ := hd5.put (x := r.1) (d := .i (g.getD i 0)) (v := .int (g.getD i 0)) rfl (by omega)
      refine ⟨_, rfl, _, rfl, _, rfl, d, _, rfl, hput, ⟨_, _, _, _, rfl⟩, same_upd s45 nd, ?_, by rw [upd_ne (fun z => ne z.symm)]; exact htl5⟩
      rw [← er2, in0_snoc ok.ins.nd hi] at hd6
      exact hd6
    · rintro σ H4 ⟨⟨o3, o6, o7, o8, rfl⟩, s4, hd, htl4⟩
      refine ⟨_, rfl, a, _, _, _, rfl, rfl, Same.ext s4 _ _ hp.tup, rfl, _, rfl, _, rfl, _, rfl, ?_⟩
      refine ⟨H, x3, d, tl, p, b, g, rfl, hp.body, ok, hd, htl4, ne, nd, ntl0, s4, fun e H5 s5 ee hd5 told => ?_⟩
      refine ⟨_, rfl, _, rfl, _, rfl, szl (show 3 ≤ 1000000 by decide), fun t nt => ?_⟩
      have s6 := same_new (o := .tup [.bl e, .ref tl, .ref d]) nt
      subst ee
      refine q t d tl _ (s5.trans s6) (.inl (.inl upd_same)) (fun z => (hd5 z).same s6) ?_
      obtain ⟨i, ⟨xs, e1, e2, e3⟩, hi⟩ := told
      refine ⟨i, ⟨xs, s6 _ _ e1, e2, fun z => ?_⟩, hi⟩
      obtain ⟨t', a', b', e4, e5⟩ := e3 z
      exact ⟨t', a', b', e4, Same.ext s6 _ _ e5⟩
theorem sc_ran : FnScope ["program", "bound", "given", "does_end", "told", "values", "name"] ["program", "bound", "given"] (defScope (top 91)) := ⟨rfl, rfl, rfl, by decide +kernel, rfl, by decide +kernel, by decide +kernel⟩
def sp_ran (K : PySem.W.Frag) : Sp := fun vs H Q _ => ∃ (u v : V) (p : Pg) (b : Int) (g : List Int), vs = [u, .int b, v] ∧ PgAt K H p u ∧ PgOk p ∧ Den K H (wd g) v ∧ g.length = p.ins.length ∧
  ∀ t rest H', Same H H' → SqT K H' t (.str (if ends_ p b g then "ends" else "trips") :: rest) → Q (.ref t) H'
theorem ok_ran (T : Tx K mg) : FnOk P w K mg base CX0 5 608 (fdA K 608) ["program", "bound", "given"] (sp_ran K) := by
  refine (f_ran T).ok sc_ran (fun vs H Q E h => ?_) (fun cdv A outer s H vs Q E hr h => ⟨_, PSs.nox (pss_cons (ps_asg (pe_call (ok_traced T) (hr.mono (by decide)) (by rfl) (g_traced T) (f_traced T).kp (b_traced T) .nil pass0 (pa_cons (pv 0) (pa_cons (pv 1) (pa_cons (pv 2) pa_nil)))) (k_tgt K 3 rfl (pgs_cons (pg_name (i := 3) sc_ran.nd rfl (.inl rfl) (hf := (.inl rfl))) (pgs_cons (pg_name (i := 4) sc_ran.nd rfl (.inl rfl) (hf := (.inl rfl))) (pgs_cons (pg_name (i := 5) sc_ran.nd rfl (.inr rfl) (hf := (.inl rfl))) pgs_nil)))))
  (pss_cons (ps_if (pt_val (pv 3)) (pss_one (ps_ret (pe_tup (pa_cons pe_str (pa_cons (pe_callTy (k_tuple K) (by rfl) (free_tuple T) (by decide +kernel) (pa_cons (pe_lc (own := [("name", 6)]) rfl sc_ran.nd (k_pit K (pe_ix (k_ixT K) (pv 0) pe_int (fun _ _ => rfl))) (blkOk_by (N := ["program", "bound", "given", "does_end", "told", "values", "name"]) (sc := (defScope (top 91))) (by decide +kernel)) (fun _ _ _ _ _ => (pg_name (i := 6) sc_ran.nd rfl (.inl rfl) (hf := (.inr rfl)))) (fun _ _ _ _ _ => pts_nil) (fun _ _ _ _ _ => (pe_dget (hu_of hr) (pv 5) (pv 6) (fun _ _ => rfl)))) pa_nil)) pa_nil))))) pss_nil)
  (pss_one (ps_ret (pe_tup (pa_cons pe_str (pa_cons (pe_ix (k_ixT K) (pe_ix (k_ixL K) (pv 4) (pe_un un_neg pe_int) (fun _ _ => rfl)) pe_int (fun _ _ => rfl)) (pa_cons (pe_ix (k_ixT K) (pe_ix (k_ixL K) (pv 4) (pe_un un_neg pe_int) (fun _ _ => rfl)) pe_int (fun _ _ => rfl)) pa_nil)))))))), ?_⟩)
  · obtain ⟨u, v, p, b, g, rfl, _⟩ := h; rfl
  · obtain ⟨u, v, p, b, g, rfl, hp, ok, hg, gl, q⟩ := h
    have o2 := ok.o2
    refine ⟨_, rfl, _, rfl, _, rfl, u, v, p, b, g, rfl, hp, ok, hg, gl, fun t d tl H1 s1 tT hd told => ?_⟩
    refine ⟨t, _, rfl, tT, rfl, _, _, rfl, _, _, rfl, _, _, rfl, rfl, ?_⟩
    obtain ⟨a, x1, x2, x3, x4, rfl, hp1⟩ := hp.same s1
    cases e : ends_ p b g with
    | true =>
      rw [e] at q
      obtain ⟨ao, os, rfl, oT, oL⟩ := hp1.outs
      have lo := oL.length
      rw [List.length_map] at lo
      have hd1 := hd e
      refine ⟨_, rfl, true, rfl, iteT ?_⟩
      refine ⟨_, rfl, a, _, _, _, rfl, rfl, hp1.tup, rfl, ao, rfl, ⟨_, oT⟩, fun D nD => lc_map (K := K) nD (n := p.outs.length) (G := fun Hh => SqT K Hh ao os) (Y := YAt os) (by rw [← lo]; exact walk_tup) (fun i => .i (getV (valsF p.ins g p.body) (p.outs.getD i ""))) (by omega) (fun Hh s => Same.ext s _ _ oT) ?_ ?_⟩
      · rintro j z H6 H7 Q' hj s6 ⟨rfl, ez⟩ q'
        obtain ⟨nm, en, dn⟩ := map_at1 (DenL.mono (Same.ext s6) oL) ez
        obtain rfl : z = .str nm := dn
        have kn : (getL (veD (valsF p.ins g p.body)) nm).isSome = true := by rw [knownV]; exact ok.o3 nm (List.mem_of_getElem? en)
        obtain ⟨vf, gf, dvf⟩ := (hd1.same s6).get (getL_veD kn)
        refine ⟨rfl, _, rfl, _, rfl, d, vf, rfl, gf, q' _ _ (Same.refl _) ?_⟩
        rw [List.getD_eq_getElem?_getD, en]; exact dvf
      · intro H6 ys s6 eD dL
        refine ⟨D, ys, rfl, .inl ⟨SqL.of eD, fun c nc => ⟨szl (show 2 ≤ 1000000 by decide), fun tt ntt => ?_⟩⟩⟩
        exact q tt _ _ (s1.trans (s6.trans ((same_new nc).trans (same_new ntt)))) (.inl (.inl upd_same))
    | false =>
      rw [e] at q
      obtain ⟨i, ⟨xs, e1, e2, e3⟩, hi⟩ := told
      have hi' := hi e
      obtain ⟨t', a', b', e4, e5⟩ := e3 hi'
      refine ⟨_, rfl, false, rfl, iteF ?_⟩
      refine ⟨_, rfl, _, rfl, tl, _, _, _, rfl, rfl, SqL.of e1, atI_neg1 (by rw [e2]; exact e4) (by omega), t', _, _, _, rfl, rfl, e5, rfl, ?_⟩
      refine ⟨_, rfl, _, rfl, tl, _, _, _, rfl, rfl, SqL.of e1, atI_neg1 (by rw [e2]; exact e4) (by omega), t', _, _, _, rfl, rfl, e5, rfl, ?_⟩
      refine ⟨szl (show 3 ≤ 1000000 by decide), fun tt ntt => ?_⟩
      exact q tt _ _ (s1.trans (same_new ntt)) (.inl (.inl upd_same))
theorem sc_run : FnScope ["program", "bound", "given"] ["program", "bound", "given"] (defScope (top 93)) := ⟨rfl, rfl, rfl, by decide +kernel, rfl, by decide +kernel, by decide +kernel⟩
def sp_run (K : PySem.W.Frag) : Sp := fun vs H Q _ => ∃ (u v : V) (p : Pg) (b : Int) (g : List Int), vs = [u, .int b, v] ∧ PgAt K H p u ∧ PgOk p ∧ Den K H (wd g) v ∧ GivenOk p b g ∧ 1 ≤ b ∧
  ∀ t rest H', Same H H' → SqT K H' t (.str (if ends_ p b g then "ends" else "trips") :: rest) → Q (.ref t) H'
theorem ok_run (T : Tx K mg) : FnOk P w K mg base CX0 9 615 (fdA K 615) ["program", "bound", "given"] (sp_run K) := by
  refine (f_run T).ok sc_run (fun vs H Q E h => ?_) (fun cdv A outer s H vs Q E hr h => ⟨_, PSs.nox (pss_cons (ps_expr (pe_call (ok_need_program T) (hr.mono (by decide)) (by rfl) (g_need_program T) (f_need_program T).kp (b_need_program T) .nil pass0 (pa_cons (pv 0) pa_nil)))
  (pss_cons (ps_expr (pe_call (ok_need_given T) (hr.mono (by decide)) (by rfl) (g_need_given T) (f_need_given T).kp (b_need_given T) .nil pass0 (pa_cons (pv 0) (pa_cons (pv 1) (pa_cons (pv 2) pa_nil)))))
  (pss_one (ps_ret (pe_call (ok_ran T) (hr.mono (by decide)) (by rfl) (g_ran T) (f_ran T).kp (b_ran T) .nil pass0 (pa_cons (pv 0) (pa_cons (pv 1) (pa_cons (pv 2) pa_nil)))))))), ?_⟩)
  · obtain ⟨u, v, p, b, g, rfl, _⟩ := h; rfl
  · obtain ⟨u, v, p, b, g, rfl, hp, ok, hg, G, hb, q⟩ := h
    refine ⟨_, rfl, u, p, rfl, hp, ok, fun H1 s1 => ?_⟩
    refine ⟨_, rfl, _, rfl, _, rfl, u, v, p, b, g, rfl, hp.same s1, ok, hg.mono (Same.ext s1), G, hb, fun H2 s2 => ?_⟩
    have s12 := s1.trans s2
    exact ⟨_, rfl, _, rfl, _, rfl, u, v, p, b, g, rfl, hp.same s12, ok, hg.mono (Same.ext s12), G.len, fun t rest H3 s3 tT => q t rest H3 (s12.trans s3) tT⟩
end
end K28
end
section
set_option Elab.async false
set_option linter.all false
set_option maxRecDepth 100000
set_option maxHeartbeats 4000000
set_option exponentiation.threshold 2000
namespace K28
open PySem L2
/-! the deck of draws -/
def dkL (c : Addr) (m t : Int) : List (Key × V) := [(.inr "cells", .ref c), (.inr "mixed", .int m), (.inr "turn", .int t)]
def Deck (H : Hp) (d c : Addr) : Prop := ∃ (cs : List Int) (m t : Int), H d = some (.dK (dkL c m t)) ∧ H c = some (.lst (cs.map V.int)) ∧ cs.length ≤ 100
/-- all but the deck stays -/
structure Fr (d c : Addr) (H H' : Hp) : Prop where
  deck : Deck H' d c
  keep : ∀ b o, H b = some o → b ≠ d → b ≠ c → H' b = some o
theorem Fr.trans {d c : Addr} {H H1 H2 : Hp} (a : Fr d c H H1) (b : Fr d c H1 H2) : Fr d c H H2 := ⟨b.deck, fun x o h n1 n2 => b.keep x o (a.keep x o h n1 n2) n1 n2⟩
theorem Deck.same {d c : Addr} {H H' : Hp} (h : Deck H d c) (s : Same H H') : Deck H' d c := by
  obtain ⟨cs, m, t, h1, h2, h3⟩ := h
  exact ⟨cs, m, t, s _ _ h1, s _ _ h2, h3⟩
theorem Fr.of {d c : Addr} {H H' : Hp} (h : Deck H d c) (s : Same H H') : Fr d c H H' := ⟨h.same s, fun x o e _ _ => s x o e⟩
theorem Fr.refl {d c : Addr} {H : Hp} (h : Deck H d c) : Fr d c H H := Fr.of h (Same.refl H)
theorem Fr.then {d c : Addr} {H H1 H2 : Hp} (a : Fr d c H H1) (s : Same H1 H2) : Fr d c H H2 := a.trans (Fr.of a.deck s)
theorem Deck.ne_of {d c : Addr} {H : Hp} (h : Deck H d c) {b : Addr} {o : HO} (e : H b = some o) (ho : isTupO o = true) : b ≠ d ∧ b ≠ c := by
  obtain ⟨cs, m, t, h1, h2, _⟩ := h
  exact ⟨fun z => (by rw [z, h1] at e; cases e; cases ho), fun z => (by rw [z, h2] at e; cases e; cases ho)⟩
theorem Fr.ext {K : PySem.W.Frag} {d c : Addr} {H H' : Hp} (f : Fr d c H H') (h : Deck H d c) : ExT K H H' := fun a xs q => by
  rcases q with (q | ⟨x, q⟩) | q
  · obtain ⟨n1, n2⟩ := h.ne_of q rfl
    exact .inl (.inl (f.keep _ _ q n1 n2))
  · obtain ⟨n1, n2⟩ := h.ne_of q rfl
    exact .inl (.inr ⟨x, f.keep _ _ q n1 n2⟩)
  · exact .inr q
theorem put_turn {c : Addr} {m t : Int} {v : Int} : putK (dkL c m t) (.inr "turn") (.int v) = dkL c m v := by unfold dkL; rfl
theorem val_turn {c : Addr} {m t : Int} : valV (dkL c m t) (.inr "turn") = some (.int t) := by unfold dkL; rfl
theorem val_mixed {c : Addr} {m t : Int} : valV (dkL c m t) (.inr "mixed") = some (.int m) := by unfold dkL; rfl
theorem val_cells {c : Addr} {m t : Int} : valV (dkL c m t) (.inr "cells") = some (.ref c) := by unfold dkL; rfl
theorem get_turn {H : Hp} {d c : Addr} {m t : Int} (h : H d = some (.dK (dkL c m t))) : DGet H d (.str "turn") (some (.int t)) := by rw [← val_turn (c := c) (m := m)]; exact DGet.k (k := .inr "turn") h
theorem get_mixed {H : Hp} {d c : Addr} {m t : Int} (h : H d = some (.dK (dkL c m t))) : DGet H d (.str "mixed") (some (.int m)) := by rw [← val_mixed (c := c) (t := t)]; exact DGet.k (k := .inr "mixed") h
theorem get_cells {H : Hp} {d c : Addr} {m t : Int} (h : H d = some (.dK (dkL c m t))) : DGet H d (.str "cells") (some (.ref c)) := by rw [← val_cells (c := c) (m := m) (t := t)]; exact DGet.k (k := .inr "cells") h
theorem set_turn {H : Hp} {d c : Addr} {m t v : Int} (h : H d = some (.dK (dkL c m t))) : DPut H d (.str "turn") (.int v) (upd H d (.dK (dkL c m v))) := by
  have := DPut.k (k := .inr "turn") (v := .int v) h (szlt (show 3 ≤ 1000000 by decide))
  rw [put_turn] at this
  exact this
theorem ints_canlay : ∀ cs : List Int, PyData.canLayAll0 (cs.map PyData.int) = true ∧ PyData.depthAll (cs.map PyData.int) = 0
  | [] => ⟨by simp [PyData.canLayAll0], by simp [PyData.depthAll]⟩
  | c :: cs => by
    obtain ⟨h1, h2⟩ := ints_canlay cs
    exact ⟨by simp [PyData.canLayAll0, PyData.canLay0, h1], by simp [PyData.depthAll, PyData.depth, h2]⟩
section
variable {P : Program} {w : World} {K : PySem.W.Frag} {mg : Str → Option Value} {base : Heap}
theorem ints_dp {H : Hp} : ∀ cs : List Int, DpAll K H (cs.map V.int) (cs.map PyData.int)
  | [] => .nil
  | c :: cs => .cons (.int c) (ints_dp cs)
theorem use_neC {H : Hp} {c e : Addr} {cs : List Int} {Q : VK} (hc : H c = some (.lst (cs.map V.int))) (he : H e = some (.lst [])) (q : Q (.bl (decide (cs ≠ []))) H) : kNe K (.ref c) (.ref e) H Q := by
  unfold kNe
  obtain ⟨h1, h2⟩ := ints_canlay cs
  refine ⟨.list (cs.map .int), .list [], .lst (SqL.of hc) (ints_dp cs), .lst (SqL.of he) .nil, ?_, by decide, ?_⟩
  · unfold SeqAt.shaped
    simp [PyData.canLay0, PyData.depth, h1, h2]
  · cases cs with
    | nil => simpa [PyData.eqv, PyData.eqvAll] using q
    | cons x xs => simpa [PyData.eqv, PyData.eqvAll] using q
theorem cm_mod (x y : Int) : CMul (x % 2147483549) y := .inl ⟨by omega, by omega⟩
theorem sc_law_draw : FnScope ["_law_deck_here", "_law_below", "_law_figure", "_law_cell"] ["_law_deck_here", "_law_below"] (defScope (top 96)) := ⟨rfl, rfl, rfl, by decide +kernel, rfl, by decide +kernel, by decide +kernel⟩
def sp_draw : Sp := fun vs H Q _ => ∃ (d c : Addr) (n : Int), vs = [.ref d, .int n] ∧ Deck H d c ∧ 0 < n ∧ n < 1000000000 ∧ ∀ r H', 0 ≤ r → r < n → Fr d c H H' → Q (.int r) H'
theorem ok_law_draw (T : Tx K mg) : FnOk P w K mg base CX0 1 627 (fdA K 627) ["_law_deck_here", "_law_below"] sp_draw := by
  refine (f_law_draw T).ok sc_law_draw (fun vs H Q E h => ?_) (fun cdv A outer s H vs Q E hr h => ⟨_, PSs.nox (pss_cons (ps_dput (hu_of hr) (pv 0) pe_str (pe_op op_add (pe_dget (hu_of hr) (pv 0) pe_str (fun _ _ => rfl)) pe_int) rfl)
  (pss_cons (ps_set (i := 2) sc_law_draw.nd rfl (.inl rfl) (pe_op op_add (pe_dget (hu_of hr) (pv 0) pe_str (fun _ _ => rfl)) (pe_op op_mul pe_int (pe_dget (hu_of hr) (pv 0) pe_str (fun _ _ => rfl)))))
  (pss_cons (ps_if (pt_cmpR (k_ne K hr.units) (pe_dget (hu_of hr) (pv 0) pe_str (fun _ _ => rfl)) (pe_lst pa_nil) (nomark _)) (pss_cons (ps_set (i := 3) sc_law_draw.nd rfl (.inl rfl) (pe_bm0 PySem.F.plainAttrs_list PySem.F.slot_list_pop PySem.F.type_list_pop mt_pop (pe_dget (hu_of hr) (pv 0) pe_str (fun _ _ => rfl))))
  (pss_cons (ps_if (pt_cmpR op_ge (pv 3) (pe_op op_pow pe_int pe_int) (nomark _)) (pss_cons (ps_expr (pe_bm PySem.F.plainAttrs_list PySem.F.slot_list_append PySem.F.type_list_append mt_append (pe_dget (hu_of hr) (pv 0) pe_str (fun _ _ => rfl)) (pa_cons (pe_op op_fdiv (pv 3) (pe_callB (call_max2 rfl) (by rfl) (free_max T) (by decide +kernel) (pa_cons pe_int (pa_cons (pv 1) pa_nil)))) pa_nil)))
  (pss_one (ps_ret (pe_op op_mod (pe_callTy call_int1 (by rfl) (free_int T) (by decide +kernel) (pa_cons (pv 3) pa_nil)) (pv 1))))) pss_nil)
  (pss_one (ps_set (i := 2) sc_law_draw.nd rfl (.inl rfl) (pe_op op_add (pv 2) (pe_op op_mod (pe_callTy call_int1 (by rfl) (free_int T) (by decide +kernel) (pa_cons (pv 3) pa_nil)) pe_int)))))) pss_nil)
  (pss_cons (ps_set (i := 2) sc_law_draw.nd rfl (.inl rfl) (pe_op op_mod (pe_callTy call_int1 (by rfl) (free_int T) (by decide +kernel) (pa_cons (pe_op op_add (pe_op op_mul (pv 2) pe_int) pe_int) pa_nil)) pe_int))
  (pss_cons (ps_set (i := 2) sc_law_draw.nd rfl (.inl rfl) (pe_op op_mod (pe_callTy call_int1 (by rfl) (free_int T) (by decide +kernel) (pa_cons (pe_op op_add (pe_op op_add (pe_op op_mul (pv 2) (pv 2)) (pe_op op_mul pe_int (pe_dget (hu_of hr) (pv 0) pe_str (fun _ _ => rfl)))) pe_int) pa_nil)) pe_int))
  (pss_cons (ps_set (i := 2) sc_law_draw.nd rfl (.inl rfl) (pe_op op_mod (pe_callTy call_int1 (by rfl) (free_int T) (by decide +kernel) (pa_cons (pe_op op_mul (pv 2) pe_int) pa_nil)) pe_int))
  (pss_one (ps_ret (pe_op op_mod (pe_callTy call_int1 (by rfl) (free_int T) (by decide +kernel) (pa_cons (pe_op op_fdiv (pv 2) pe_int) pa_nil)) (pv 1)))))))))), ?_⟩)
  · obtain ⟨d, c, n, rfl, _⟩ := h; rfl
  · obtain ⟨d, c, n, rfl, ⟨cs, m, t, hd, hc, hz⟩, n0, n1, q⟩ := h
    have nc : c ≠ d := fun z => by rw [z, hd] at hc; cases hc
    refine ⟨_, rfl, d, _, rfl, get_turn hd, _, _, rfl, rfl, _, rfl, d, _, rfl, set_turn hd, ?_⟩
    have hd1 : upd H d (.dK (dkL c m (t + 1))) d = some (.dK (dkL c m (t + 1))) := upd_same
    have hc1 : upd H d (.dK (dkL c m (t + 1))) c = some (.lst (cs.map V.int)) := by rw [upd_ne nc]; exact hc
    have k1 : ∀ b o, H b = some o → b ≠ d → b ≠ c → upd H d (.dK (dkL c m (t + 1))) b = some o := fun b o e z _ => by rw [upd_ne z]; exact e
    generalize upd H d (.dK (dkL c m (t + 1))) = H1 at hd1 hc1 k1 ⊢
    refine ⟨_, rfl, d, _, rfl, get_mixed hd1, _, rfl, d, _, rfl, get_turn hd1, _, _, rfl, rfl, .inl (by decide), _, _, rfl, rfl, ?_⟩
    refine ⟨_, rfl, d, _, rfl, get_cells hd1, szl (show 0 ≤ 1000000 by decide), fun e ne => ?_⟩
    have sE := same_new (o := .lst []) ne
    have hd2 := sE _ _ hd1
    have hc2 := sE _ _ hc1
    have k2 : ∀ b o, H b = some o → b ≠ d → b ≠ c → upd H1 e (.lst []) b = some o := fun b o z1 z2 z3 => sE _ _ (k1 b o z1 z2 z3)
    have eE : upd H1 e (.lst []) e = some (.lst []) := upd_same
    generalize upd H1 e (.lst []) = H2 at hd2 hc2 k2 eE ⊢
    refine use_neC hc2 eE ⟨_, rfl, lastB _ (fun z => ?_) (fun z => ?_)⟩
    · have zc : cs ≠ [] := of_decide_eq_true z
      have lc : 0 < cs.length := List.length_pos_iff.mpr zc
      refine ⟨_, rfl, d, _, rfl, get_cells hd2, .inl ⟨rfl, _, SqL.of hc2⟩, c, _, .int (cs.getD (cs.length - 1) 0), rfl, rfl, hc2, by rw [List.length_map]; exact int_at (by omega), ?_⟩
      have hd3 : upd H2 c (.lst (cs.map V.int).dropLast) d = some (.dK (dkL c m (t + 1))) := by rw [upd_ne (fun z => nc z.symm)]; exact hd2
      have hc3 : upd H2 c (.lst (cs.map V.int).dropLast) c = some (.lst (cs.dropLast.map V.int)) := by rw [upd_same, List.map_dropLast]
      have k3 : ∀ b o, H b = some o → b ≠ d → b ≠ c → upd H2 c (.lst (cs.map V.int).dropLast) b = some o := fun b o z1 z2 z3 => by rw [upd_ne z3]; exact k2 b o z1 z2 z3
      generalize upd H2 c (.lst (cs.map V.int).dropLast) = H3 at hd3 hc3 k3 ⊢
      have hl3 : cs.dropLast.length ≤ 99 := by rw [List.length_dropLast]; omega
      refine ⟨_, rfl, _, _, rfl, rfl, (show CPow 10 18 from ⟨by decide, by decide, by decide⟩), _, _, rfl, rfl, _, rfl, lastB _ (fun y => ?_) (fun y => ?_)⟩
      · refine ⟨_, rfl, d, _, rfl, get_cells hd3, .inl ⟨rfl, _, SqL.of hc3⟩, _, rfl, _, rfl, _, _, rfl, ?_⟩
        refine ⟨_, _, rfl, rfl, ⟨by split <;> omega, by split <;> omega⟩, c, _, _, rfl, rfl, hc3, szlt (by rw [List.length_map]; omega), ?_⟩
        refine ⟨_, rfl, .inl ⟨_, rfl, _, rfl, _, _, rfl, rfl, n0, q _ _ (Int.emod_nonneg _ (by omega)) (Int.emod_lt_of_pos _ n0) ⟨⟨cs.dropLast ++ [_], m, t + 1, by rw [upd_ne (fun z => nc z.symm)]; exact hd3, by rw [upd_same, List.map_append]; rfl, by rw [List.length_append]; simp only [List.length_singleton]; omega⟩, fun b o z1 z2 z3 => by rw [upd_ne z3]; exact k3 b o z1 z2 z3⟩⟩⟩
      · refine ⟨_, rfl, _, rfl, .inl ⟨_, rfl, _, _, rfl, rfl, (show (0 : Int) < 2147483629 by decide), _, _, rfl, rfl, ?_⟩⟩
        have fr : Fr d c H H3 := ⟨⟨cs.dropLast, m, t + 1, hd3, hc3, by omega⟩, k3⟩
        refine ⟨_, rfl, _, _, rfl, rfl, .inr (by decide), _, _, rfl, rfl, .inl ⟨_, rfl, _, _, rfl, rfl, (show (0 : Int) < 2147483549 by decide), ?_⟩⟩
        refine ⟨_, rfl, _, rfl, _, _, rfl, rfl, cm_mod _ _, _, rfl, d, _, rfl, get_turn hd3, _, _, rfl, rfl, .inl (by decide), _, _, rfl, rfl, _, _, rfl, rfl, .inl ⟨_, rfl, _, _, rfl, rfl, (show (0 : Int) < 2147483579 by decide), ?_⟩⟩
        refine ⟨_, rfl, _, _, rfl, rfl, .inr (by decide), .inl ⟨_, rfl, _, _, rfl, rfl, (show (0 : Int) < 2147483579 by decide), ?_⟩⟩
        exact ⟨_, rfl, _, _, rfl, rfl, ⟨(by decide : (0 : Int) < 64), (by decide : (64 : Int) < 1073741824)⟩, .inl ⟨_, rfl, _, rfl, _, _, rfl, rfl, n0, q _ _ (Int.emod_nonneg _ (by omega)) (Int.emod_lt_of_pos _ n0) fr⟩⟩
    · have fr : Fr d c H H2 := ⟨⟨cs, m, t + 1, hd2, hc2, hz⟩, k2⟩
      refine ⟨_, rfl, _, _, rfl, rfl, .inr (by decide), _, _, rfl, rfl, .inl ⟨_, rfl, _, _, rfl, rfl, (show (0 : Int) < 2147483549 by decide), ?_⟩⟩
      refine ⟨_, rfl, _, rfl, _, _, rfl, rfl, cm_mod _ _, _, rfl, d, _, rfl, get_turn hd2, _, _, rfl, rfl, .inl (by decide), _, _, rfl, rfl, _, _, rfl, rfl, .inl ⟨_, rfl, _, _, rfl, rfl, (show (0 : Int) < 2147483579 by decide), ?_⟩⟩
      refine ⟨_, rfl, _, _, rfl, rfl, .inr (by decide), .inl ⟨_, rfl, _, _, rfl, rfl, (show (0 : Int) < 2147483579 by decide), ?_⟩⟩
      exact ⟨_, rfl, _, _, rfl, rfl, ⟨(by decide : (0 : Int) < 64), (by decide : (64 : Int) < 1073741824)⟩, .inl ⟨_, rfl, _, rfl, _, _, rfl, rfl, n0, q _ _ (Int.emod_nonneg _ (by omega)) (Int.emod_lt_of_pos _ n0) fr⟩⟩
theorem sc_law_deck : FnScope ["_law_script", "_law_mixed", "_law_cell"] ["_law_script"] (defScope (top 95)) := ⟨rfl, rfl, rfl, by decide +kernel, rfl, by decide +kernel, by decide +kernel⟩
theorem cutV_len {xs : List V} {lo hi : Option Int} : (cutV xs lo hi).length ≤ xs.length := cutV_length xs lo hi
def sp_deck (K : PySem.W.Frag) : Sp := fun vs H Q _ => ∃ (a : Addr) (ns : List Int), vs = [.ref a] ∧ SqL K H a (ns.map V.int) ∧ ns.length ≤ 100000 ∧ ∀ d c H', Same H H' → H d = none → H c = none → Deck H' d c → Q (.ref d) H'
theorem ok_law_deck (T : Tx K mg) : FnOk P w K mg base CX0 1 620 (fdA K 620) ["_law_script"] (sp_deck K) := by
  refine (f_law_deck T).ok sc_law_deck (fun vs H Q E h => ?_) (fun cdv A outer s H vs Q E hr h => ⟨_, PSs.nox (pss_cons (ps_set (i := 1) sc_law_deck.nd rfl (.inl rfl) pe_int)
  (pss_cons (ps_for PassesOwn.never rfl (k_pil K (pe_slice (k_slL K) (pv 0) po_none (po_some pe_int))) (pg_name (i := 2) sc_law_deck.nd rfl (.inl rfl) (hf := (.inl rfl)))
    (pss_one (ps_set (i := 1) sc_law_deck.nd rfl (.inl rfl) (pe_op op_mod (pe_callTy call_int1 (by rfl) (free_int T) (by decide +kernel) (pa_cons (pe_op op_add (pe_op op_add (pe_op op_mul (pv 1) pe_int) (pe_op op_mod (pe_callTy call_int1 (by rfl) (free_int T) (by decide +kernel) (pa_cons (pv 2) pa_nil)) pe_int)) pe_int) pa_nil)) pe_int))))
  (pss_one (ps_ret (pe_disp (pps_cons pe_str (k_revL K (pe_lc (own := [("_law_cell", 2)]) rfl sc_law_deck.nd (k_pil K (pe_slice (k_slL K) (pv 0) po_none (po_some pe_int))) (blkOk_by (N := ["_law_script", "_law_mixed", "_law_cell"]) (sc := (defScope (top 95))) (by decide +kernel)) (fun _ _ _ _ _ => (pg_name (i := 2) sc_law_deck.nd rfl (.inl rfl) (hf := (.inr rfl)))) (fun _ _ _ _ _ => pts_nil) (fun _ _ _ _ _ => (pe_callTy call_int1 (by rfl) (free_int T) (by decide +kernel) (pa_cons (pv 2) pa_nil))))) (pps_cons pe_str (pv 1) (pps_cons pe_str pe_int pps_nil))) (by rfl) (by rfl) (fun z => by cases z) (by decide)))))), ?_⟩)
  · obtain ⟨a, ns, rfl, _⟩ := h; rfl
  · obtain ⟨a, ns, rfl, hA, hz, q⟩ := h
    have cut : cutV (ns.map V.int) none (some 63) = (ns.take 63).map V.int := by
      unfold cutV
      rw [show (some (63 : Int)) = some ((63 : Nat) : Int) from rfl, HT.sIx_nat, HT.sIx_none, List.drop_zero, Nat.sub_zero, List.map_take]
      by_cases h : 63 ≤ (ns.map V.int).length
      · rw [Nat.min_eq_left h]
      · rw [Nat.min_eq_right (by omega), List.take_length, List.take_of_length_le (by omega)]
    refine ⟨_, rfl, _, rfl, a, _, rfl, hA, fun p np => ?_⟩
    rw [cut]
    have hA1 := Same.seq (same_new (o := .lst ((ns.take 63).map V.int)) np) hA
    have eP : upd H p (.lst ((ns.take 63).map V.int)) p = some (.lst ((ns.take 63).map V.int)) := upd_same
    have s1 := same_new (o := .lst ((ns.take 63).map V.int)) np
    generalize upd H p (.lst ((ns.take 63).map V.int)) = H1 at hA1 eP s1 ⊢
    refine ⟨p, rfl, ⟨_, SqL.of eP⟩, ?_⟩
    refine for_it (walk_list (K := K) (a := p) (xs := (ns.take 63).map V.int)) (fun i σ H' => (∃ (m : Int) (o2 : Option V), σ = [some (.ref a), some (.int m), o2]) ∧ H' = H1) ⟨⟨_, _, rfl⟩, rfl⟩ (fun i σ H' _ h => by rw [h.2]; exact SqL.of eP) ?_ ?_
    · rintro i x σ H2 H3 hi ⟨⟨m, o2, rfl⟩, rfl⟩ ⟨rfl, ex⟩
      obtain ⟨rfl, hi2⟩ := int_get ex
      exact ⟨_, rfl, _, _, rfl, rfl, .inr (by decide), _, rfl, .inl ⟨_, rfl, _, _, rfl, rfl, (show (0 : Int) < 2147483629 by decide), _, _, rfl, rfl, _, _, rfl, rfl, .inl ⟨_, rfl, _, _, rfl, rfl, (show (0 : Int) < 2147483579 by decide), ⟨_, _, rfl⟩, rfl⟩⟩⟩
    · rintro σ H2 ⟨⟨m, o2, rfl⟩, rfl⟩
      refine fun d nd => ?_
      have s2 := same_new (o := .dK []) nd
      have ed : upd H2 d (.dK []) d = some (.dK []) := upd_same
      have n0d : H d = none := noneBack nd s1
      have hA2 := Same.seq s2 hA1
      have s02 := s1.trans s2
      generalize upd H2 d (.dK []) = H3 at ed s02 hA2 ⊢
      refine ⟨_, rfl, _, rfl, a, _, rfl, hA2, fun p2 np2 => ?_⟩
      rw [cut]
      have s3 := same_new (o := .lst ((ns.take 63).map V.int)) np2
      refine ⟨p2, rfl, ⟨_, SqL.of upd_same⟩, fun D nD => lc_lstI nD (SqL.of upd_same) (fun x => x) (by rw [List.length_take]; omega) (fun _ => by rfl) (fun x Q' H4 hx s4 q' => ⟨_, rfl, .inl ⟨_, rfl, q'⟩⟩) (fun H4 s4 eD => ?_)⟩
      refine ⟨D, _, rfl, SqL.of eD, fun c nc => ?_⟩
      rw [← List.map_reverse, List.map_id']
      have s5 := s3.trans (s4.trans (same_new (o := .lst (((ns.take 63).reverse).map V.int)) nc))
      refine ⟨_, rfl, s5 _ _ ed, dkL c m 0, rfl, (show 3 ≤ 15 by decide), ?_⟩
      have em : mergeK [] (dkL c m 0) = dkL c m 0 := by unfold dkL; rfl
      rw [em]
      have nc0 : H c = none := noneBack nc (s02.trans (s3.trans s4))
      have ncd : c ≠ d := fun z => by
        have := (s3.trans s4) _ _ ed
        rw [z, this] at nc; cases nc
      refine q d c _ (same_upd (s02.trans s5) n0d) n0d nc0 ⟨(ns.take 63).reverse, m, 0, upd_same, by rw [upd_ne ncd]; exact upd_same, by simp; omega⟩
theorem sc_law_pick : FnScope ["_law_deck_here", "_law_some"] ["_law_deck_here", "_law_some"] (defScope (top 97)) := ⟨rfl, rfl, rfl, by decide +kernel, rfl, by decide +kernel, by decide +kernel⟩
def sp_pick : Sp := fun vs H Q _ => ∃ (d c l : Addr) (xs : List V), vs = [.ref d, .ref l] ∧ Deck H d c ∧ H l = some (.lst xs) ∧ l ≠ c ∧ 0 < xs.length ∧ xs.length ≤ 1000 ∧ ∀ (i : Nat) (x : V) H', xs[i]? = some x → Fr d c H H' → Q x H'
theorem ok_law_pick (T : Tx K mg) : FnOk P w K mg base CX0 2 634 (fdA K 634) ["_law_deck_here", "_law_some"] sp_pick := by
  refine (f_law_pick T).ok sc_law_pick (fun vs H Q E h => ?_) (fun cdv A outer s H vs Q E hr h => ⟨_, PSs.nox (pss_one (ps_ret (pe_ix (k_ixL K) (pv 1) (pe_call (ok_law_draw T) (hr.mono (by decide)) (by rfl) (g__law_draw T) (f_law_draw T).kp (b_law_draw T) .nil pass0 (pa_cons (pv 0) (pa_cons (pe_callB (k_len K) (by rfl) (free_len T) (by decide +kernel) (pa_cons (pv 1) pa_nil)) pa_nil))) (fun _ _ => rfl)))), ?_⟩)
  · obtain ⟨d, c, l, xs, rfl, _⟩ := h; rfl
  · obtain ⟨d, c, l, xs, rfl, hD, hl, nlc, hz, hz2, q⟩ := h
    have nld : l ≠ d := fun z => by
      obtain ⟨_, _, _, h1, _⟩ := hD
      rw [z, h1] at hl; cases hl
    refine ⟨_, rfl, _, rfl, _, rfl, l, xs, rfl, .inl (SqL.of hl), ?_⟩
    refine ⟨d, c, _, rfl, hD, by omega, by omega, fun r H1 r0 r1 fr => ?_⟩
    have hl1 := fr.keep _ _ hl nld nlc
    obtain ⟨k, rfl⟩ : ∃ k : Nat, r = (k : Int) := ⟨r.toNat, by omega⟩
    have hk : k < xs.length := by omega
    exact ⟨l, xs, _, _, rfl, rfl, SqL.of hl1, atI_nat (List.getElem?_eq_getElem hk), q k _ H1 (List.getElem?_eq_getElem hk) fr⟩
/-- one of a list of data -/
theorem pick_den {d c : Addr} {H H' : Hp} {xs : List V} {ds : List Dt} {i : Nat} {x : V} (hD : Deck H d c) (hL : DenL K H ds xs) (e : xs[i]? = some x) (fr : Fr d c H H') : ∃ dt, dt ∈ ds ∧ Den K H' dt x := by
  obtain ⟨dt, ed, dx⟩ := hL.at e
  exact ⟨dt, List.mem_of_getElem? ed, dx.mono (fr.ext hD)⟩
theorem sc_law_kind : FnScope ["_law_deck_here", "_law_some"] ["_law_deck_here"] (defScope (top 98)) := ⟨rfl, rfl, rfl, by decide +kernel, rfl, by decide +kernel, by decide +kernel⟩
theorem den_kd {H : Hp} {p : Addr} {bo : Bool} {k : Nat} (hp : H p = none) : Den K (upd H p (.tup [.str (if bo then "both" else "up"), .int (k : Int)])) (Kd.d ⟨bo, k⟩) (.ref p) := den_new hp (denL_cons rfl (denL_cons rfl denL_nil))
def sp_kind (K : PySem.W.Frag) : Sp := fun vs H Q _ => ∃ (d c : Addr), vs = [.ref d] ∧ Deck H d c ∧ ∀ k v H', Fr d c H H' → Kd.ok k = true → Den K H' k.d v → Q v H'
theorem ok_law_kind (T : Tx K mg) : FnOk P w K mg base CX0 3 641 (fdA K 641) ["_law_deck_here"] (sp_kind K) := by
  refine (f_law_kind T).ok sc_law_kind (fun vs H Q E h => ?_) (fun cdv A outer s H vs Q E hr h => ⟨_, PSs.nox (pss_cons (ps_set (i := 1) sc_law_kind.nd rfl (.inl rfl) (pe_lst (pa_cons (pe_tup (pa_cons pe_str (pa_cons pe_int pa_nil))) (pa_cons (pe_tup (pa_cons pe_str (pa_cons pe_int pa_nil))) (pa_cons (pe_tup (pa_cons pe_str (pa_cons pe_int pa_nil))) (pa_cons (pe_tup (pa_cons pe_str (pa_cons pe_int pa_nil))) (pa_cons (pe_tup (pa_cons pe_str (pa_cons pe_int pa_nil))) (pa_cons (pe_tup (pa_cons pe_str (pa_cons pe_int pa_nil))) (pa_cons (pe_tup (pa_cons pe_str (pa_cons pe_int pa_nil))) pa_nil)))))))))
  (pss_one (ps_ret (pe_call (ok_law_pick T) (hr.mono (by decide)) (by rfl) (g__law_pick T) (f_law_pick T).kp (b_law_pick T) .nil pass0 (pa_cons (pv 0) (pa_cons (pe_op op_cat (pv 1) (pe_lst (pa_cons (pe_tup (pa_cons (pe_call (ok_law_pick T) (hr.mono (by decide)) (by rfl) (g__law_pick T) (f_law_pick T).kp (b_law_pick T) .nil pass0 (pa_cons (pv 0) (pa_cons (pe_lst (pa_cons pe_str (pa_cons pe_str pa_nil))) pa_nil))) (pa_cons (pe_op op_add pe_int (pe_call (ok_law_draw T) (hr.mono (by decide)) (by rfl) (g__law_draw T) (f_law_draw T).kp (b_law_draw T) .nil pass0 (pa_cons (pv 0) (pa_cons pe_int pa_nil)))) pa_nil))) pa_nil))) pa_nil)))))), ?_⟩)
  · obtain ⟨d, c, rfl, _⟩ := h; rfl
  · obtain ⟨d, c, rfl, hD, q⟩ := h
    refine ⟨szl (show 2 ≤ 1000000 by decide), fun p1 n1 => ⟨szl (show 2 ≤ 1000000 by decide), fun p2 n2 => ⟨szl (show 2 ≤ 1000000 by decide), fun p3 n3 => ⟨szl (show 2 ≤ 1000000 by decide), fun p4 n4 => ⟨szl (show 2 ≤ 1000000 by decide), fun p5 n5 => ⟨szl (show 2 ≤ 1000000 by decide), fun p6 n6 => ⟨szl (show 2 ≤ 1000000 by decide), fun p7 n7 => ⟨szl (show 7 ≤ 1000000 by decide), fun l nl => ?_⟩⟩⟩⟩⟩⟩⟩⟩
    have sF : Same H (upd (upd (upd (upd (upd (upd (upd (upd H p1 (.tup [.str "both", .int 1])) p2 (.tup [.str "both", .int 2])) p3 (.tup [.str "up", .int 1])) p4 (.tup [.str "both", .int 3])) p5 (.tup [.str "up", .int 2])) p6 (.tup [.str "both", .int 1])) p7 (.tup [.str "both", .int 5])) l (.lst [.ref p1, .ref p2, .ref p3, .ref p4, .ref p5, .ref p6, .ref p7])) := ((same_new n1).trans ((same_new n2).trans ((same_new n3).trans ((same_new n4).trans ((same_new n5).trans ((same_new n6).trans ((same_new n7).trans (same_new nl))))))))
    have eF : (upd (upd (upd (upd (upd (upd (upd (upd H p1 (.tup [.str "both", .int 1])) p2 (.tup [.str "both", .int 2])) p3 (.tup [.str "up", .int 1])) p4 (.tup [.str "both", .int 3])) p5 (.tup [.str "up", .int 2])) p6 (.tup [.str "both", .int 1])) p7 (.tup [.str "both", .int 5])) l (.lst [.ref p1, .ref p2, .ref p3, .ref p4, .ref p5, .ref p6, .ref p7])) l = some (.lst [.ref p1, .ref p2, .ref p3, .ref p4, .ref p5, .ref p6, .ref p7]) := upd_same
    have dF : DenL K (upd (upd (upd (upd (upd (upd (upd (upd H p1 (.tup [.str "both", .int 1])) p2 (.tup [.str "both", .int 2])) p3 (.tup [.str "up", .int 1])) p4 (.tup [.str "both", .int 3])) p5 (.tup [.str "up", .int 2])) p6 (.tup [.str "both", .int 1])) p7 (.tup [.str "both", .int 5])) l (.lst [.ref p1, .ref p2, .ref p3, .ref p4, .ref p5, .ref p6, .ref p7])) [Kd.d ⟨true, 1⟩, Kd.d ⟨true, 2⟩, Kd.d ⟨false, 1⟩, Kd.d ⟨true, 3⟩, Kd.d ⟨false, 2⟩, Kd.d ⟨true, 1⟩, Kd.d ⟨true, 5⟩] [.ref p1, .ref p2, .ref p3, .ref p4, .ref p5, .ref p6, .ref p7] := (denL_cons ((den_kd (K := K) (bo := true) (k := 1) n1).mono (Same.ext ((same_new n2).trans ((same_new n3).trans ((same_new n4).trans ((same_new n5).trans ((same_new n6).trans ((same_new n7).trans (same_new nl))))))))) (denL_cons ((den_kd (K := K) (bo := true) (k := 2) n2).mono (Same.ext ((same_new n3).trans ((same_new n4).trans ((same_new n5).trans ((same_new n6).trans ((same_new n7).trans (same_new nl)))))))) (denL_cons ((den_kd (K := K) (bo := false) (k := 1) n3).mono (Same.ext ((same_new n4).trans ((same_new n5).trans ((same_new n6).trans ((same_new n7).trans (same_new nl))))))) (denL_cons ((den_kd (K := K) (bo := true) (k := 3) n4).mono (Same.ext ((same_new n5).trans ((same_new n6).trans ((same_new n7).trans (same_new nl)))))) (denL_cons ((den_kd (K := K) (bo := false) (k := 2) n5).mono (Same.ext ((same_new n6).trans ((same_new n7).trans (same_new nl))))) (denL_cons ((den_kd (K := K) (bo := true) (k := 1) n6).mono (Same.ext ((same_new n7).trans (same_new nl)))) (denL_cons ((den_kd (K := K) (bo := true) (k := 5) n7).mono (Same.ext (same_new nl))) denL_nil)))))))
    have nlH : H l = none := noneBack nl ((same_new n1).trans ((same_new n2).trans ((same_new n3).trans ((same_new n4).trans ((same_new n5).trans ((same_new n6).trans (same_new n7)))))))
    generalize (upd (upd (upd (upd (upd (upd (upd (upd H p1 (.tup [.str "both", .int 1])) p2 (.tup [.str "both", .int 2])) p3 (.tup [.str "up", .int 1])) p4 (.tup [.str "both", .int 3])) p5 (.tup [.str "up", .int 2])) p6 (.tup [.str "both", .int 1])) p7 (.tup [.str "both", .int 5])) l (.lst [.ref p1, .ref p2, .ref p3, .ref p4, .ref p5, .ref p6, .ref p7])) = H1 at sF eF dF ⊢
    have hD1 := hD.same sF
    have nlc : l ≠ c := fun z => by
      obtain ⟨_, _, _, _, h2, _⟩ := hD
      rw [z, h2] at nlH; cases nlH
    -- the last item
    refine ⟨_, rfl, _, rfl, _, rfl, szl (show 2 ≤ 1000000 by decide), fun l2 nl2 => ?_⟩
    have s2 := same_new (o := .lst [.str "both", .str "up"]) nl2
    have hD2 := hD1.same s2
    have nl2c : l2 ≠ c := fun z => by
      obtain ⟨_, _, _, _, h2, _⟩ := hD1
      rw [z, h2] at nl2; cases nl2
    refine ⟨d, c, l2, [.str "both", .str "up"], rfl, hD2, upd_same, nl2c, (show 0 < 2 by decide), (show 2 ≤ 1000 by decide), fun i x H3 ex fr3 => ?_⟩
    have f3 := (Fr.of hD1 s2).trans fr3
    refine ⟨_, rfl, d, c, 30, rfl, fr3.deck, by decide, by decide, fun r H4 r0 r1 fr4 => ⟨_, _, rfl, rfl, szl (show 2 ≤ 1000000 by decide), fun t nt => ⟨szl (show 1 ≤ 1000000 by decide), fun l3 nl3 => ?_⟩⟩⟩
    have f4 := f3.trans fr4
    obtain ⟨k, rfl⟩ : ∃ k : Nat, r = (k : Int) := ⟨r.toNat, by omega⟩
    obtain ⟨kd, ekd, kok⟩ : ∃ kd : Kd, (∀ (Hh : Hp), Hh t = none → Den K (upd Hh t (.tup [x, .int (1 + (k : Int))])) kd.d (.ref t)) ∧ kd.ok = true := by
      have : x = .str "both" ∨ x = .str "up" := by
        match i, ex with
        | 0, ex => exact .inl (Option.some.inj ex).symm
        | 1, ex => exact .inr (Option.some.inj ex).symm
      rcases this with rfl | rfl
      · refine ⟨⟨true, 1 + k⟩, fun Hh hh => ?_, decide_eq_true (show 1 ≤ 1 + k ∧ 1 + k ≤ 30 by omega)⟩
        have := den_kd (K := K) (bo := true) (k := 1 + k) hh
        rw [show (((1 + k : Nat)) : Int) = 1 + (k : Int) by omega] at this
        exact this
      · refine ⟨⟨false, 1 + k⟩, fun Hh hh => ?_, decide_eq_true (show 1 ≤ 1 + k ∧ 1 + k ≤ 30 by omega)⟩
        have := den_kd (K := K) (bo := false) (k := 1 + k) hh
        rw [show (((1 + k : Nat)) : Int) = 1 + (k : Int) by omega] at this
        exact this
    have s5 := same_new (o := .tup [x, .int (1 + (k : Int))]) nt
    have s6 := same_new (o := .lst [.ref t]) nl3
    have f6 := (f4.then s5).then s6
    have nld : l ≠ d := fun z => by
      obtain ⟨_, _, _, h1, _⟩ := hD
      rw [z, h1] at nlH; cases nlH
    have e6 := f6.keep _ _ eF nld nlc
    have d6 := dF.mono (f6.ext hD1)
    have dk6 := (ekd _ nt).mono (Same.ext s6)
    refine ⟨l, l3, _, _, rfl, rfl, e6, upd_same, szl (show 8 ≤ 1000000 by decide), fun l4 nl4 => ?_⟩
    have s7 := same_new (o := .lst ([.ref p1, .ref p2, .ref p3, .ref p4, .ref p5, .ref p6, .ref p7] ++ [.ref t])) nl4
    have f7 := f6.then s7
    have hD7 := f7.deck
    have nl4c : l4 ≠ c := fun z => by
      obtain ⟨_, _, _, _, h2, _⟩ := f6.deck
      rw [z, h2] at nl4; cases nl4
    have d7 : DenL K _ ([Kd.d ⟨true, 1⟩, Kd.d ⟨true, 2⟩, Kd.d ⟨false, 1⟩, Kd.d ⟨true, 3⟩, Kd.d ⟨false, 2⟩, Kd.d ⟨true, 1⟩, Kd.d ⟨true, 5⟩] ++ [kd.d]) ([.ref p1, .ref p2, .ref p3, .ref p4, .ref p5, .ref p6, .ref p7] ++ [.ref t]) := (denL_snoc d6 dk6).mono (Same.ext s7)
    refine ⟨d, c, l4, _, rfl, hD7, upd_same, nl4c, (show 0 < 8 by decide), (show 8 ≤ 1000 by decide), fun j y H8 ey fr8 => ?_⟩
    obtain ⟨dt, md, dy⟩ := pick_den hD7 d7 ey fr8
    have fz : Fr d c H H8 := ((Fr.of hD sF).trans f7).trans fr8
    simp only [List.cons_append, List.nil_append, List.mem_cons, List.not_mem_nil, or_false] at md
    rcases md with rfl | rfl | rfl | rfl | rfl | rfl | rfl | rfl
    · exact q ⟨true, 1⟩ y H8 fz rfl dy
    · exact q ⟨true, 2⟩ y H8 fz rfl dy
    · exact q ⟨false, 1⟩ y H8 fz rfl dy
    · exact q ⟨true, 3⟩ y H8 fz rfl dy
    · exact q ⟨false, 2⟩ y H8 fz rfl dy
    · exact q ⟨true, 1⟩ y H8 fz rfl dy
    · exact q ⟨true, 5⟩ y H8 fz rfl dy
    · exact q kd y H8 fz kok dy
end
end K28
end
section
set_option Elab.async false
set_option linter.all false
set_option maxRecDepth 100000
set_option maxHeartbeats 4000000
set_option exponentiation.threshold 2000
namespace K28
open PySem L2
@[irreducible] def kSortF (K : PySem.W.Frag) : List V → Hp → VK → Prop := rSortF K
theorem k_sortF (K : PySem.W.Frag) {X : Cx} (hu : X.A.units + 64 < cLine) (h : X.K = K := by rfl) : CallR X (.builtin "sorted") (kSortF K) := by
  subst h
  unfold kSortF
  exact cr_sortedF hu
theorem deck_ne {H : Hp} {d c p : Addr} (h : Deck H d c) (n : H p = none) : p ≠ d ∧ p ≠ c := by
  obtain ⟨_, _, _, h1, h2, _⟩ := h
  refine ⟨fun z => ?_, fun z => ?_⟩
  · rw [z, h1] at n; cases n
  · rw [z, h2] at n; cases n
theorem deck_upd {H : Hp} {d c p : Addr} {o : HO} (h : Deck H d c) (n1 : p ≠ d) (n2 : p ≠ c) : Deck (upd H p o) d c := by
  obtain ⟨cs, m, t, h1, h2, h3⟩ := h
  exact ⟨cs, m, t, by rw [upd_ne (fun z => n1 z.symm)]; exact h1, by rw [upd_ne (fun z => n2 z.symm)]; exact h2, h3⟩
theorem fr_upd {H0 H : Hp} {d c p : Addr} {o : HO} (hD : Deck H0 d c) (f : Fr d c H0 H) (n : H0 p = none) : Fr d c H0 (upd H p o) := by
  obtain ⟨n1, n2⟩ := deck_ne hD n
  exact ⟨deck_upd f.deck n1 n2, fun b u e z1 z2 => by rw [upd_ne (ne_of_none e n)]; exact f.keep b u e z1 z2⟩
theorem erase_map {α β : Type} (f : α → β) : ∀ (l : List α) (j : Nat), (l.map f).eraseIdx j = (l.eraseIdx j).map f
  | [], _ => rfl
  | _ :: _, 0 => rfl
  | x :: l, j + 1 => by rw [List.map_cons, List.eraseIdx_cons_succ, List.eraseIdx_cons_succ, List.map_cons, erase_map f l j]
theorem erase_perm {α : Type} : ∀ {l : List α} {k : Nat} (h : k < l.length), (l[k] :: l.eraseIdx k).Perm l
  | x :: l, 0, _ => List.Perm.refl _
  | x :: l, k + 1, h => by
    rw [List.eraseIdx_cons_succ, List.getElem_cons_succ]
    exact (List.Perm.swap _ _ _).trans (List.Perm.cons x (erase_perm (by simpa using h)))
def NAMES : List Str := ["a", "b", "c", "x", "yy", "zero"]
section
variable {P : Program} {w : World} {K : PySem.W.Frag} {mg : Str → Option Value} {base : Heap}
theorem names_ok : ∀ x ∈ NAMES, okName x = true := by
  have h : NAMES.all okName = true := by decide +kernel
  exact fun x hx => List.all_eq_true.mp h x hx
theorem names_lt : ∀ p q : Str × Str, p.1 ∈ NAMES → p.2 ∈ NAMES → q.1 ∈ NAMES → q.2 ∈ NAMES → p ≠ q → PySem.W.dataLt (ftD p).py (ftD q).py = true ∨ PySem.W.dataLt (ftD q).py (ftD p).py = true := by
  have h : (NAMES.all fun a => NAMES.all fun b => NAMES.all fun e => NAMES.all fun f => (decide ((a, b) = (e, f))) || PySem.W.dataLt (ftD (a, b)).py (ftD (e, f)).py || PySem.W.dataLt (ftD (e, f)).py (ftD (a, b)).py) = true := by decide +kernel
  intro p q h1 h2 h3 h4 ne
  have := List.all_eq_true.mp (List.all_eq_true.mp (List.all_eq_true.mp (List.all_eq_true.mp h p.1 h1) p.2 h2) q.1 h3) q.2 h4
  rw [Bool.or_eq_true, Bool.or_eq_true] at this
  rcases this with (z | z) | z
  · exact absurd (of_decide_eq_true z) ne
  · exact .inl z
  · exact .inr z
theorem sort_two {α : Type} (le : α → α → Bool) (x y : α) : [x, y].mergeSort le = if le x y then [x, y] else [y, x] := by
  simp [List.mergeSort, List.MergeSort.Internal.splitInTwo, List.merge]
theorem fr_lst {H H' : Hp} {d c l : Addr} {xs : List V} (f : Fr d c H H') (hD : Deck H d c) (e : H l = some (.lst xs)) (n : l ≠ c) : H' l = some (.lst xs) := by
  refine f.keep _ _ e (fun z => ?_) n
  obtain ⟨_, _, _, h1, _⟩ := hD
  rw [z, h1] at e; cases e
theorem fr_LD {H H' : Hp} {d c l : Addr} {ds : List Dt} (f : Fr d c H H') (hD : Deck H d c) (h : LD K H l ds) (n : l ≠ c) : LD K H' l ds := by
  obtain ⟨vs, e, dv⟩ := h
  exact ⟨vs, fr_lst f hD e n, dv.mono (f.ext hD)⟩
theorem seqIx {r n : Nat} (h : r < n) : seqIndex? (r : Int) n = some r := (ixN_seq (ixN_nat h)).1
/-- the pair of texts that stands at a place -/
def pairAt (H : Hp) : V → Str × Str
  | .ref b => match H b with
    | some (.tup [.str x, .str y]) => (x, y)
    | _ => ("", "")
  | _ => ("", "")
def ftK (q : Str × Str) : List Key := [.inr q.1, .inr q.2]
theorem pair_at {H : Hp} {b : Addr} {q : Str × Str} (h : H b = some (.tup ((ftK q).map kV))) : pairAt H (.ref b) = q := by
  have h2 : H b = some (.tup [.str q.1, .str q.2]) := h
  show (match H b with
    | some (.tup [.str x, .str y]) => (x, y)
    | _ => (("", "") : Str × Str)) = q
  rw [h2]
theorem ft_dp {H : Hp} {b : Addr} {q : Str × Str} (h : H b = some (.tup ((ftK q).map kV))) : Den K H (ftD q) (.ref b) := ⟨b, [.str q.1, .str q.2], rfl, .inl (.inl h), denL_cons rfl (denL_cons rfl denL_nil)⟩
theorem alike_ft (p q : Str × Str) : PySem.W.alike (ftD p).py (ftD q).py = true := by simp [ftD, Dt.py, pyL, PySem.W.alike, PySem.W.alikeAll]
theorem use_sortF {H : Hp} {p : Addr} {bs : List Addr} {fs : List (Str × Str)} {Q : VK} (hp : H p = some (.lst (bs.map V.ref))) (hb : Paired (fun q b => H b = some (.tup ((ftK q).map kV))) fs bs) (hz : fs.length ≤ 2) (hn : fs.Nodup) (hN : ∀ q ∈ fs, q.1 ∈ NAMES ∧ q.2 ∈ NAMES)
    (q : ∀ (p2 : Addr) (ys : List V) (fs2 : List (Str × Str)) (H' : Hp), Same H H' → H' p2 = some (.lst ys) → DenL K H' (fs2.map ftD) ys → (∀ r ∈ fs2, r ∈ fs) → fs2.length = fs.length → (∀ i, i + 1 < fs2.length → ftLt (fs2.getD i ("", "")) (fs2.getD (i + 1) ("", ""))) → Q (.ref p2) H') : kSortF K [.ref p] H Q := by
  unfold kSortF
  have hx : ∀ x ∈ bs.map V.ref, ∃ b r, x = .ref b ∧ r ∈ fs ∧ H b = some (.tup ((ftK r).map kV)) := by
    clear q hp hz hn hN
    induction hb with
    | nil => intro x hx; cases hx
    | cons h t ih =>
      rename_i r b fs bs
      intro x hx
      rcases List.mem_cons.mp hx with z | z
      · exact ⟨b, r, z, List.mem_cons_self .., h⟩
      · obtain ⟨b', r', e1, e2, e3⟩ := ih x z
        exact ⟨b', r', e1, List.mem_cons_of_mem _ e2, e3⟩
  refine ⟨p, bs.map V.ref, fun x => (ftD (pairAt H x)).py, rfl, SqL.of hp, fun x hm => ?_, PySem.W.AllAlike.of fun a b => alike_ft _ _, PySem.W.Sortable.tuples fun b => ⟨_, _, rfl⟩, fun x hm => ?_, fun p2 np2 => ?_⟩
  · obtain ⟨b, r, rfl, _, e⟩ := hx x hm
    show Dp K H (V.ref b) (ftD (pairAt H (.ref b))).py
    rw [pair_at e]
    exact (ft_dp (K := K) e).dp
  · show PyData.depth (ftD _).py ≤ 60
    simp [ftD, Dt.py, pyL, PyData.depth, PyData.depthAll]
  · have st := same_new (o := .lst ((bs.map V.ref).mergeSort (PySem.W.dataLe false fun x => (ftD (pairAt H x)).py))) np2
    match fs, bs, hb, hz with
    | [], _, .nil, _ =>
      refine q p2 [] [] _ st ?_ rfl (fun r hr => hr) rfl (fun i hi => by simp at hi)
      rw [upd_same]; simp
    | [r], _, .cons (b := b) h .nil, _ =>
      refine q p2 [.ref b] [r] _ st ?_ (denL_one ((ft_dp (K := K) h).mono (Same.ext st))) (fun r hr => hr) rfl (fun i hi => by simp at hi)
      rw [upd_same]; simp
    | [r, r2], _, .cons (b := b) h (.cons (b := b2) h2 .nil), _ =>
      have e : ([b, b2].map V.ref).mergeSort (PySem.W.dataLe false fun x => (ftD (pairAt H x)).py) = if PySem.W.dataLe false (fun x => (ftD (pairAt H x)).py) (V.ref b) (.ref b2) then [.ref b, .ref b2] else [.ref b2, .ref b] := sort_two _ _ _
      have le : PySem.W.dataLe false (fun x => (ftD (pairAt H x)).py) (V.ref b) (.ref b2) = !PySem.W.dataLt (ftD r2).py (ftD r).py := by
        show (!PySem.W.dataLt (ftD (pairAt H (.ref b2))).py (ftD (pairAt H (.ref b))).py) = _
        rw [pair_at h, pair_at h2]
      have ne : r ≠ r2 := fun z => by rw [z] at hn; simp at hn
      have m1 := hN r (List.mem_cons_self ..)
      have m2 := hN r2 (List.mem_cons_of_mem _ (List.mem_cons_self ..))
      cases lt : PySem.W.dataLt (ftD r2).py (ftD r).py with
      | false =>
        have lt2 := (names_lt r r2 m1.1 m1.2 m2.1 m2.2 ne).resolve_right (by rw [lt]; decide)
        refine q p2 [.ref b, .ref b2] [r, r2] _ st ?_ (denL_cons ((ft_dp (K := K) h).mono (Same.ext st)) (denL_one ((ft_dp (K := K) h2).mono (Same.ext st)))) (fun r hr => hr) rfl (fun i hi => ?_)
        · rw [upd_same, e, le, lt]; rfl
        · have : i = 0 := by simp at hi; omega
          subst this
          exact lt2
      | true =>
        refine q p2 [.ref b2, .ref b] [r2, r] _ st ?_ (denL_cons ((ft_dp (K := K) h2).mono (Same.ext st)) (denL_one ((ft_dp (K := K) h).mono (Same.ext st)))) (fun r hr => ?_) rfl (fun i hi => ?_)
        · rw [upd_same, e, le, lt]; rfl
        · rcases List.mem_cons.mp hr with z | z
          · rw [z]; exact List.mem_cons_of_mem _ (List.mem_cons_self ..)
          · rw [List.mem_singleton.mp z]; exact List.mem_cons_self ..
        · have : i = 0 := by simp at hi; omega
          subst this
          exact lt
theorem keys_pair {H H' : Hp} (s : Same H H') : ∀ {fs : List (Str × Str)} {kvs : List (List Key × V)} {bs : List Addr}, IsKeys H kvs bs → kvs.map (·.1) = fs.map ftK → Paired (fun q b => H' b = some (.tup ((ftK q).map kV))) fs bs
  | [], [], _, .nil, _ => .nil
  | q :: fs, kv :: kvs, _, .cons h t, e => by
    rw [List.map_cons, List.map_cons] at e
    obtain ⟨e1, e2⟩ := List.cons.inj e
    exact .cons (by rw [← e1]; exact s _ _ h) (keys_pair s t e2)
  | [], _ :: _, _, _, e => by simp at e
  | _ :: _, [], _, _, e => by simp at e
theorem put_keysY {κ : Type} [DecidableEq κ] {kvs : List (κ × V)} {k : κ} {v : V} (h : k ∈ kvs.map (·.1)) : (putK kvs k v).map (·.1) = kvs.map (·.1) := by
  unfold putK
  have h2 : (kvs.any fun kv => decide (kv.1 = k)) = true := by
    obtain ⟨p, hp, e⟩ := List.mem_map.mp h
    exact List.any_eq_true.mpr ⟨p, hp, decide_eq_true e⟩
  rw [if_pos h2, List.map_map]
  refine List.map_congr_left fun p _ => ?_
  show (if p.1 = k then (p.1, v) else p).1 = p.1
  split <;> rfl
theorem put_keysN {κ : Type} [DecidableEq κ] {kvs : List (κ × V)} {k : κ} {v : V} (h : ¬ k ∈ kvs.map (·.1)) : (putK kvs k v).map (·.1) = kvs.map (·.1) ++ [k] := by
  unfold putK
  have h2 : ¬ (kvs.any fun kv => decide (kv.1 = k)) = true := fun z => by
    obtain ⟨p, hp, e⟩ := List.any_eq_true.mp z
    exact h (List.mem_map.mpr ⟨p, hp, of_decide_eq_true e⟩)
  rw [if_neg h2, List.map_append]; rfl
theorem sc_law_inputs : FnScope ["_law_deck_here", "_law_most", "_law_go", "_law_left", "_law_ins", "_law_facts", "_law_name", "_law_one", "_law_other"] ["_law_deck_here", "_law_most"] (defScope (top 99)) := ⟨rfl, rfl, rfl, by decide +kernel, rfl, by decide +kernel, by decide +kernel⟩
def sp_inputs (K : PySem.W.Frag) : Sp := fun vs H Q _ => ∃ (d c : Addr) (most : Nat), vs = [.ref d, .int (most : Int)] ∧ Deck H d c ∧ 1 ≤ most ∧ most ≤ 6 ∧
  ∀ t x1 x2 ins facts H', Fr d c H H' → SqT K H' t [x1, x2] → InsAt K H' ins x1 → Den K H' (.t (facts.map ftD)) x2 → InsOk ins → FactsOk ins facts → ins.length ≤ most → (∀ q ∈ ins, q.1 ∈ NAMES) → facts.length ≤ 2 → Q (.ref t) H'
theorem ok_law_inputs (T : Tx K mg) : FnOk P w K mg base CX0 4 648 (fdA K 648) ["_law_deck_here", "_law_most"] (sp_inputs K) := by
  refine (f_law_inputs T).ok sc_law_inputs (fun vs H Q E h => ?_) (fun cdv A outer s H vs Q E hr h => ⟨_, PSs.nox (pss_cons (ps_par3 (i := 3) (j := 4) (l := 5) rfl sc_law_inputs.nd rfl rfl rfl (by decide) (by decide) (by decide) rfl rfl rfl (pa_cons (pe_lst (pa_cons pe_str (pa_cons pe_str (pa_cons pe_str (pa_cons pe_str (pa_cons pe_str (pa_cons pe_str pa_nil))))))) (pa_cons (pe_lst pa_nil) (pa_cons pe_dnewT pa_nil))) (by rfl))
  (pss_cons (ps_for PassesOwn.never rfl (pi_range1 (by rfl) (free_range T) (pa_cons (pe_callB (call_min2 rfl) (by rfl) (free_min T) (by decide +kernel) (pa_cons (pv 1) (pa_cons (pe_call (ok_law_pick T) (hr.mono (by decide)) (by rfl) (g__law_pick T) (f_law_pick T).kp (b_law_pick T) .nil pass0 (pa_cons (pv 0) (pa_cons (pe_lst (pa_cons pe_int (pa_cons pe_int (pa_cons pe_int (pa_cons pe_int (pa_cons pe_int (pa_cons pe_int (pa_cons pe_int (pa_cons pe_int pa_nil))))))))) pa_nil))) pa_nil))) pa_nil)) (pg_name (i := 2) sc_law_inputs.nd rfl (.inl rfl) (hf := (.inl rfl)))
    (pss_cons (ps_set (i := 6) sc_law_inputs.nd rfl (.inl rfl) (pe_bm PySem.F.plainAttrs_list PySem.F.slot_list_pop PySem.F.type_list_pop mt_popAt (pv 3) (pa_cons (pe_call (ok_law_draw T) (hr.mono (by decide)) (by rfl) (g__law_draw T) (f_law_draw T).kp (b_law_draw T) .nil pass0 (pa_cons (pv 0) (pa_cons (pe_callB (k_len K) (by rfl) (free_len T) (by decide +kernel) (pa_cons (pv 3) pa_nil)) pa_nil))) pa_nil)))
  (pss_one (ps_expr (pe_bm PySem.F.plainAttrs_list PySem.F.slot_list_append PySem.F.type_list_append mt_append (pv 4) (pa_cons (pe_tup (pa_cons (pv 6) (pa_cons (pe_call (ok_law_pick T) (hr.mono (by decide)) (by rfl) (g__law_pick T) (f_law_pick T).kp (b_law_pick T) .nil pass0 (pa_cons (pv 0) (pa_cons (pe_lst (pa_cons (pe_tup (pa_cons pe_str (pa_cons pe_int pa_nil))) (pa_cons (pe_tup (pa_cons pe_str (pa_cons pe_int pa_nil))) (pa_cons (pe_call (ok_law_kind T) (hr.mono (by decide)) (by rfl) (g__law_kind T) (f_law_kind T).kp (b_law_kind T) .nil pass0 (pa_cons (pv 0) pa_nil)) pa_nil)))) pa_nil))) pa_nil))) pa_nil))))))
  (pss_cons (ps_for PassesOwn.never rfl (pi_range1 (by rfl) (free_range T) (pa_cons (pe_ifExp (pt_cmpR op_gt (pe_callB (k_len K) (by rfl) (free_len T) (by decide +kernel) (pa_cons (pv 4) pa_nil)) pe_int (nomark _)) (pe_call (ok_law_pick T) (hr.mono (by decide)) (by rfl) (g__law_pick T) (f_law_pick T).kp (b_law_pick T) .nil pass0 (pa_cons (pv 0) (pa_cons (pe_lst (pa_cons pe_int (pa_cons pe_int (pa_cons pe_int (pa_cons pe_int (pa_cons pe_int pa_nil)))))) pa_nil))) pe_int) pa_nil)) (pg_name (i := 2) sc_law_inputs.nd rfl (.inl rfl) (hf := (.inl rfl)))
    (pss_cons (ps_set (i := 7) sc_law_inputs.nd rfl (.inl rfl) (pe_call (ok_law_draw T) (hr.mono (by decide)) (by rfl) (g__law_draw T) (f_law_draw T).kp (b_law_draw T) .nil pass0 (pa_cons (pv 0) (pa_cons (pe_callB (k_len K) (by rfl) (free_len T) (by decide +kernel) (pa_cons (pv 4) pa_nil)) pa_nil))))
  (pss_cons (ps_set (i := 8) sc_law_inputs.nd rfl (.inl rfl) (pe_op op_mod (pe_callTy call_int1 (by rfl) (free_int T) (by decide +kernel) (pa_cons (pe_op op_add (pe_op op_add (pv 7) pe_int) (pe_call (ok_law_draw T) (hr.mono (by decide)) (by rfl) (g__law_draw T) (f_law_draw T).kp (b_law_draw T) .nil pass0 (pa_cons (pv 0) (pa_cons (pe_op op_sub (pe_callB (k_len K) (by rfl) (free_len T) (by decide +kernel) (pa_cons (pv 4) pa_nil)) pe_int) pa_nil)))) pa_nil)) (pe_callB (k_len K) (by rfl) (free_len T) (by decide +kernel) (pa_cons (pv 4) pa_nil))))
  (pss_one (ps_dput (hu_of hr) (pv 5) (pe_tup (pa_cons (pe_ix (k_ixT K) (pe_ix (k_ixL K) (pv 4) (pe_callB (call_min2 rfl) (by rfl) (free_min T) (by decide +kernel) (pa_cons (pv 7) (pa_cons (pv 8) pa_nil))) (fun _ _ => rfl)) pe_int (fun _ _ => rfl)) (pa_cons (pe_ix (k_ixT K) (pe_ix (k_ixL K) (pv 4) (pe_callB (call_max2 rfl) (by rfl) (free_max T) (by decide +kernel) (pa_cons (pv 7) (pa_cons (pv 8) pa_nil))) (fun _ _ => rfl)) pe_int (fun _ _ => rfl)) pa_nil))) pe_bl rfl)))))
  (pss_one (ps_ret (pe_tup (pa_cons (pe_callTy call_tupF (by rfl) (free_tuple T) (by decide +kernel) (pa_cons (pv 4) pa_nil)) (pa_cons (pe_callTy (k_tuple K) (by rfl) (free_tuple T) (by decide +kernel) (pa_cons (pe_callB (k_sortF K hr.units) (by rfl) (free_sorted T) (by decide +kernel) (pa_cons (pe_callTy (call_list_dT rfl) (by rfl) (free_list T) (by decide +kernel) (pa_cons (pv 5) pa_nil)) pa_nil)) pa_nil)) pa_nil)))))))), ?_⟩)
  · obtain ⟨d, c, most, rfl, _⟩ := h; rfl
  · obtain ⟨d, c, most, rfl, hD, m1, m2, q⟩ := h
    refine ⟨szl (show 6 ≤ 1000000 by decide), fun ll nll => ⟨szl (show 0 ≤ 1000000 by decide), fun il nil_ => fun fd nfd => ⟨_, _, _, rfl, ?_⟩⟩⟩
    have s1 := (same_new (o := .lst [.str "a", .str "b", .str "c", .str "x", .str "yy", .str "zero"]) nll).trans ((same_new (o := .lst []) nil_).trans (same_new (o := .dT []) nfd))
    have ne1 : ll ≠ il := ne_of_none upd_same nil_
    have ne2 : il ≠ fd := ne_of_none upd_same nfd
    have ne3 : ll ≠ fd := ne_of_none ((same_new nil_) _ _ upd_same) nfd
    have z2 : H il = none := noneBack nil_ (same_new nll)
    have z3 : H fd = none := noneBack nfd ((same_new nll).trans (same_new nil_))
    have e1 : upd (upd (upd H ll (.lst [.str "a", .str "b", .str "c", .str "x", .str "yy", .str "zero"])) il (.lst [])) fd (.dT []) ll = some (.lst (NAMES.map V.str)) := by rw [upd_ne ne3, upd_ne ne1, upd_same]; rfl
    have e2 : upd (upd (upd H ll (.lst [.str "a", .str "b", .str "c", .str "x", .str "yy", .str "zero"])) il (.lst [])) fd (.dT []) il = some (.lst []) := by rw [upd_ne ne2]; exact upd_same
    have e3 : upd (upd (upd H ll (.lst [.str "a", .str "b", .str "c", .str "x", .str "yy", .str "zero"])) il (.lst [])) fd (.dT []) fd = some (.dT []) := upd_same
    generalize upd (upd (upd H ll (.lst [.str "a", .str "b", .str "c", .str "x", .str "yy", .str "zero"])) il (.lst [])) fd (.dT []) = H1 at s1 e1 e2 e3 ⊢
    obtain ⟨a1, a2⟩ := deck_ne hD nll
    obtain ⟨b1, b2⟩ := deck_ne hD z2
    obtain ⟨c1, c2⟩ := deck_ne hD z3
    have hD1 := hD.same s1
    refine ⟨_, rfl, _, rfl, szl (show 8 ≤ 1000000 by decide), fun pl npl => ?_⟩
    have s2 := same_new (o := .lst [.int 2, .int 3, .int 1, .int 4, .int 2, .int 3, .int 6, .int 5]) npl
    have hD2 := hD1.same s2
    obtain ⟨d1, d2⟩ := deck_ne hD1 npl
    refine ⟨d, c, pl, _, rfl, hD2, upd_same, d2, (show 0 < 8 by decide), (show 8 ≤ 1000 by decide), fun i0 x0 H2 ex0 f2 => ?_⟩
    obtain ⟨k0, rfl, hk0⟩ : ∃ k : Nat, x0 = .int (k : Int) ∧ 1 ≤ k ∧ k ≤ 6 := by
      match i0, ex0 with
      | 0, ex => exact ⟨2, (Option.some.inj ex).symm, by decide, by decide⟩
      | 1, ex => exact ⟨3, (Option.some.inj ex).symm, by decide, by decide⟩
      | 2, ex => exact ⟨1, (Option.some.inj ex).symm, by decide, by decide⟩
      | 3, ex => exact ⟨4, (Option.some.inj ex).symm, by decide, by decide⟩
      | 4, ex => exact ⟨2, (Option.some.inj ex).symm, by decide, by decide⟩
      | 5, ex => exact ⟨3, (Option.some.inj ex).symm, by decide, by decide⟩
      | 6, ex => exact ⟨6, (Option.some.inj ex).symm, by decide, by decide⟩
      | 7, ex => exact ⟨5, (Option.some.inj ex).symm, by decide, by decide⟩
    have fH2 : Fr d c H1 H2 := (Fr.of hD1 s2).trans f2
    have f02 : Fr d c H H2 := (Fr.of hD s1).trans fH2
    have g1 := fr_lst fH2 hD1 e1 a2
    have g2 := fr_lst fH2 hD1 e2 b2
    have g3 : H2 fd = some (.dT []) := fH2.keep _ _ e3 c1 c2
    obtain ⟨nn, en, nn1, nn2, nn3⟩ : ∃ nn : Nat, (if (k0 : Int) < (most : Int) then (k0 : Int) else (most : Int)) = (nn : Int) ∧ 1 ≤ nn ∧ nn ≤ most ∧ nn ≤ 6 := by
      by_cases h : (k0 : Int) < (most : Int)
      · exact ⟨k0, if_pos h, by omega, by omega, by omega⟩
      · exact ⟨most, if_neg h, by omega, by omega, by omega⟩
    refine ⟨_, _, rfl, (nn : Int), congrArg (fun z => [V.int z]) en, by omega, by omega, ?_⟩
    refine for_range (n := nn) (fun i σ H' => ∃ (o2 o6 o7 o8 : Option V) (lf : List Str) (ins : List (Str × Kd)), σ = [some (.ref d), some (.int (most : Int)), o2, some (.ref ll), some (.ref il), some (.ref fd), o6, o7, o8] ∧ Fr d c H H' ∧ H' ll = some (.lst (lf.map V.str)) ∧ LD K H' il (ins.map inD) ∧ H' fd = some (.dT []) ∧
        lf.length = 6 - i ∧ ins.length = i ∧ (lf ++ ins.map (·.1)).Nodup ∧ (∀ x ∈ lf, x ∈ NAMES) ∧ (∀ r ∈ ins, r.1 ∈ NAMES ∧ r.2.ok = true))
      ⟨_, _, _, _, NAMES, [], rfl, f02, g1, ⟨[], g2, rfl⟩, g3, rfl, rfl, by rw [List.map_nil, List.append_nil]; decide +kernel, fun x hx => hx, fun r hr => by cases hr⟩ ?_ ?_
    · rintro i σ H3 hi ⟨o2, o6, o7, o8, lf, ins, rfl, f3, e1, ⟨is, e2, dis⟩, e3, ll1, il1, nd, n1, n2⟩
      have hlf : 0 < lf.length := by omega
      refine ⟨_, rfl, .inl ⟨rfl, _, SqL.of e1⟩, _, rfl, _, rfl, ll, _, rfl, .inl (SqL.of e1), ?_⟩
      rw [List.length_map]
      refine ⟨d, c, _, rfl, f3.deck, by omega, by omega, fun r H4 r0 r1 f4 => ?_⟩
      obtain ⟨k, rfl⟩ : ∃ k : Nat, r = (k : Int) := ⟨r.toNat, by omega⟩
      have hk : k < lf.length := by omega
      have e1' := fr_lst f4 f3.deck e1 a2
      have ek : (lf.map V.str)[k]? = some (.str lf[k]) := by rw [List.getElem?_map, List.getElem?_eq_getElem hk]; rfl
      refine ⟨ll, _, _, k, _, rfl, rfl, e1', by omega, by omega, seqIx (by rw [List.length_map]; exact hk), ek, ?_⟩
      have f4' : Fr d c H (upd H4 ll (.lst ((lf.map V.str).eraseIdx k))) := fr_upd hD (f3.trans f4) nll
      have h1 : upd H4 ll (.lst ((lf.map V.str).eraseIdx k)) ll = some (.lst ((lf.eraseIdx k).map V.str)) := by rw [upd_same, erase_map]
      have e2' := fr_lst f4 f3.deck e2 b2
      have h2 : upd H4 ll (.lst ((lf.map V.str).eraseIdx k)) il = some (.lst is) := by rw [upd_ne (fun z => ne1 z.symm)]; exact e2'
      have dis2 := (dis.mono (f4.ext f3.deck)).mono (ext_upd (o := .lst ((lf.map V.str).eraseIdx k)) e1' rfl)
      have h3 : upd H4 ll (.lst ((lf.map V.str).eraseIdx k)) fd = some (.dT []) := by rw [upd_ne (fun z => ne3 z.symm)]; exact f4.keep _ _ e3 c1 c2
      have D4 := f4'.deck
      generalize upd H4 ll (.lst ((lf.map V.str).eraseIdx k)) = H5 at f4' h1 h2 dis2 h3 D4 ⊢
      refine ⟨_, rfl, .inl ⟨rfl, _, SqL.of h2⟩, _, rfl, _, rfl, szl (show 2 ≤ 1000000 by decide), fun q1 m1 => ⟨szl (show 2 ≤ 1000000 by decide), fun q2 m2 => ?_⟩⟩
      have t1 := same_new (o := .tup [.str "both", .int 1]) m1
      have t2 := same_new (o := .tup [.str "up", .int 1]) m2
      have dk1 := (den_kd (K := K) (bo := true) (k := 1) m1).mono (Same.ext t2)
      have dk2 := den_kd (K := K) (bo := false) (k := 1) m2
      have f5 := Fr.of D4 (t1.trans t2)
      refine ⟨_, rfl, d, c, rfl, f5.deck, fun kd kv H6 f6 kok dkv => ⟨szl (show 3 ≤ 1000000 by decide), fun lk nlk => ?_⟩⟩
      have t3 := same_new (o := .lst [.ref q1, .ref q2, kv]) nlk
      have f7 := f6.then t3
      have x67 : ExT K _ _ := (f6.ext f5.deck).trans (Same.ext t3)
      obtain ⟨_, nlkc⟩ := deck_ne f6.deck nlk
      have dl : DenL K _ [Kd.d ⟨true, 1⟩, Kd.d ⟨false, 1⟩, kd.d] [.ref q1, .ref q2, kv] := denL_cons (dk1.mono x67) (denL_cons (dk2.mono x67) (denL_cons (dkv.mono (Same.ext t3)) denL_nil))
      refine ⟨d, c, lk, _, rfl, f7.deck, upd_same, nlkc, (show 0 < 3 by decide), (show 3 ≤ 1000 by decide), fun j y H8 ey f8 => ⟨szl (show 2 ≤ 1000000 by decide), fun t nt => ?_⟩⟩
      obtain ⟨dt, md, dy⟩ := pick_den f7.deck dl ey f8
      obtain ⟨kd2, rfl, kok2⟩ : ∃ kd2 : Kd, dt = kd2.d ∧ kd2.ok = true := by
        simp only [List.mem_cons, List.not_mem_nil, or_false] at md
        rcases md with rfl | rfl | rfl
        · exact ⟨_, rfl, rfl⟩
        · exact ⟨_, rfl, rfl⟩
        · exact ⟨_, rfl, kok⟩
      have t4 := same_new (o := .tup [.str lf[k], y]) nt
      have f9 := (f5.trans (f7.trans f8)).then t4
      have h29 := fr_lst f9 D4 h2 b2
      have h19 := fr_lst f9 D4 h1 a2
      have h39 := f9.keep _ _ h3 c1 c2
      have dt9 := den_new (K := K) (l := [.s lf[k], kd2.d]) nt (denL_cons rfl (denL_cons dy denL_nil))
      have li := dis2.length
      rw [List.length_map] at li
      refine ⟨il, is, _, rfl, rfl, h29, szlt (by omega), _, _, _, _, lf.eraseIdx k, ins ++ [(lf[k], kd2)], rfl, fr_upd hD (f4'.trans f9) z2, by rw [upd_ne ne1]; exact h19, ⟨_, upd_same, ?_⟩, by rw [upd_ne (fun z => ne2 z.symm)]; exact h39, by rw [List.length_eraseIdx_of_lt hk]; omega, by rw [List.length_append, il1]; rfl, ?_, fun x hx => n1 x (List.mem_of_mem_eraseIdx hx), fun r hr => ?_⟩
      · rw [List.map_append]
        exact (denL_snoc (dis2.mono (f9.ext D4)) dt9).mono (ext_upd h29 rfl)
      · rw [List.map_append]
        have pm : (lf.eraseIdx k ++ (ins.map (·.1) ++ [lf[k]])).Perm (lf ++ ins.map (·.1)) := by
          refine List.Perm.trans ?_ (List.Perm.append_right _ (erase_perm hk))
          rw [← List.append_assoc]
          exact List.perm_append_singleton _ _
        exact pm.nodup_iff.mpr nd
      · rcases List.mem_append.mp hr with h | h
        · exact n2 r h
        · rw [List.mem_singleton.mp h]
          exact ⟨n1 _ (List.getElem_mem hk), kok2⟩
    · rintro σ H3 ⟨o2, o6, o7, o8, lf, ins, rfl, f3, e1, ⟨is, e2, dis⟩, e3, ll1, il1, nd, n1, n2⟩
      have ndi : (ins.map (·.1)).Nodup := (List.nodup_append.mp nd).2.1
      have insOk : InsOk ins := ⟨by omega, by omega, fun r hr => ⟨names_ok _ (n2 r hr).1, (n2 r hr).2⟩, ndi⟩
      have li := dis.length
      rw [List.length_map] at li
      have fin : ∀ (H4 : Hp) (is : List V) (kvs : List (List Key × V)) (fs : List (Str × Str)) (o2 o6 o7 o8 : Option V), Fr d c H H4 → H4 il = some (.lst is) → DenL K H4 (ins.map inD) is → H4 fd = some (.dT kvs) → kvs.map (·.1) = fs.map ftK → fs.length ≤ 2 → fs.Nodup → (∀ r ∈ fs, r.1 ∈ ins.map (·.1) ∧ r.2 ∈ ins.map (·.1) ∧ r.1 ≠ r.2) →
          tRet (tTup (tCons (tCB (rTupF K) (tCons (tVar 4) tNil)) (tCons (tCB (rTupQ K) (tCons (tCB (kSortF K) (tCons (tCB (fun xs H Q => ∃ d kvs, xs = [V.ref d] ∧ Rd H d (.dT kvs) ∧ ∀ p bs, H p = none → IsKeys H kvs bs → Q (.ref p) (upd H p (.lst (bs.map V.ref)))) (tCons (tVar 5) tNil)) tNil)) tNil)) tNil))) { nx := fun _ H' => Q .non H', rt := Q }
            [some (.ref d), some (.int (most : Int)), o2, some (.ref ll), some (.ref il), some (.ref fd), o6, o7, o8] H4 := by
        intro H4 is kvs fs o2 o6 o7 o8 f4 e2 dis e3 ek fz fn fk
        refine ⟨_, rfl, il, is, rfl, SqL.of e2, fun ti oi nti don => ?_⟩
        have t1 := same_new (o := .frz oi (.tup is)) nti
        have iat : InsAt K (upd H4 ti (.frz oi (.tup is))) ins (.ref ti) := ⟨ti, oi, is, rfl, upd_same, don, dis.mono (Same.ext t1)⟩
        have e3' := t1 _ _ e3
        have f5 := f4.then t1
        generalize upd H4 ti (.frz oi (.tup is)) = H5 at t1 iat e3' f5 ⊢
        refine ⟨_, rfl, fd, kvs, rfl, .inl e3', fun p bs np hk => ?_⟩
        have t2 := same_new (o := .lst (bs.map V.ref)) np
        have hb := keys_pair t2 hk ek
        refine use_sortF upd_same hb fz fn (fun r hr => ?_) fun p2 ys fs2 H6 s6 ep2 dl2 mem2 len2 asc2 => ?_
        · obtain ⟨g1, g2, _⟩ := fk r hr
          obtain ⟨r1, hr1, e1⟩ := List.mem_map.mp g1
          obtain ⟨r2, hr2, e2⟩ := List.mem_map.mp g2
          exact ⟨by rw [← e1]; exact (n2 r1 hr1).1, by rw [← e2]; exact (n2 r2 hr2).1⟩
        · refine ⟨p2, ys, rfl, .inl ⟨SqL.of ep2, fun tq ntq => ⟨szl (show 2 ≤ 1000000 by decide), fun tt ntt => ?_⟩⟩⟩
          have t3 := (same_new (o := .tup ys) ntq).trans (same_new (o := .tup [.ref ti, .ref tq]) ntt)
          have sA := t2.trans (s6.trans t3)
          refine q tt (.ref ti) (.ref tq) ins fs2 _ (f5.then sA) (.inl (.inl upd_same)) (iat.same sA) ?_ insOk ⟨by omega, fun r hr => fk r (mem2 r hr), asc2⟩ (by omega) (fun r hr => (n2 r hr).1) (by omega)
          exact ⟨tq, ys, rfl, Same.ext (same_new ntt) _ _ (.inl (.inl upd_same)), dl2.mono (Same.ext t3)⟩
      -- the facts
      refine ⟨_, rfl, il, is, rfl, .inl (SqL.of e2), _, _, rfl, rfl, _, rfl, lastB _ (fun y => ?_) (fun y => ?_)⟩
      · have l2 : 1 < ins.length := by have := of_decide_eq_true y; omega
        refine ⟨_, rfl, szl (show 5 ≤ 1000000 by decide), fun pl2 npl2 => ?_⟩
        have t1 := same_new (o := .lst [.int 0, .int 0, .int 1, .int 0, .int 2]) npl2
        obtain ⟨_, nc2⟩ := deck_ne f3.deck npl2
        refine ⟨d, c, pl2, _, rfl, f3.deck.same t1, upd_same, nc2, (show 0 < 5 by decide), (show 5 ≤ 1000 by decide), fun i1 x1 H4 ex1 f4 => ?_⟩
        obtain ⟨kk, rfl, hkk⟩ : ∃ k : Nat, x1 = .int (k : Int) ∧ k ≤ 2 := by
          match i1, ex1 with
          | 0, ex => exact ⟨0, (Option.some.inj ex).symm, by decide⟩
          | 1, ex => exact ⟨0, (Option.some.inj ex).symm, by decide⟩
          | 2, ex => exact ⟨1, (Option.some.inj ex).symm, by decide⟩
          | 3, ex => exact ⟨0, (Option.some.inj ex).symm, by decide⟩
          | 4, ex => exact ⟨2, (Option.some.inj ex).symm, by decide⟩
        have f34 := (Fr.of f3.deck t1).trans f4
        have g2 := fr_lst f34 f3.deck e2 b2
        have g3 := f34.keep _ _ e3 c1 c2
        refine ⟨(kk : Int), rfl, by omega, by omega, ?_⟩
        refine for_range (n := kk) (fun i σ H' => ∃ (o2 o6 o7 o8 : Option V) (kvs : List (List Key × V)) (fs : List (Str × Str)), σ = [some (.ref d), some (.int (most : Int)), o2, some (.ref ll), some (.ref il), some (.ref fd), o6, o7, o8] ∧ Fr d c H H' ∧ H' il = some (.lst is) ∧ DenL K H' (ins.map inD) is ∧ H' fd = some (.dT kvs) ∧ kvs.map (·.1) = fs.map ftK ∧ fs.length ≤ i ∧ fs.Nodup ∧ (∀ r ∈ fs, r.1 ∈ ins.map (·.1) ∧ r.2 ∈ ins.map (·.1) ∧ r.1 ≠ r.2))
          ⟨_, _, _, _, [], [], rfl, f3.trans f34, g2, dis.mono (f34.ext f3.deck), g3, rfl, Nat.le_refl _, List.nodup_nil, fun r hr => by cases hr⟩ ?_ ?_
        · rintro i σ H5 hi ⟨o2, o6, o7, o8, kvs, fs, rfl, f5, h2, hdis, h3, hk, hl, hn, hf⟩
          refine ⟨_, rfl, _, rfl, il, is, rfl, .inl (SqL.of h2), ?_⟩
          rw [li]
          refine ⟨d, c, _, rfl, f5.deck, by omega, by omega, fun r H6 r0 r1 f6 => ?_⟩
          obtain ⟨k, rfl⟩ : ∃ k : Nat, r = (k : Int) := ⟨r.toNat, by omega⟩
          have h2b := fr_lst f6 f5.deck h2 b2
          refine ⟨_, rfl, _, _, rfl, rfl, _, rfl, _, rfl, il, is, rfl, .inl (SqL.of h2b), _, _, rfl, rfl, ?_⟩
          rw [li]
          refine ⟨d, c, _, rfl, f6.deck, by omega, by omega, fun r2 H7 r20 r21 f7 => ?_⟩
          obtain ⟨k2, rfl⟩ : ∃ k : Nat, r2 = (k : Int) := ⟨r2.toNat, by omega⟩
          have h2c := fr_lst f7 f6.deck h2b b2
          refine ⟨_, _, rfl, rfl, .inl ⟨_, rfl, _, rfl, il, is, rfl, .inl (SqL.of h2c), _, _, rfl, rfl, ?_, ?_⟩⟩
          · show (0 : Int) < _
            omega
          rw [li]
          have eo : ((k : Int) + 1 + (k2 : Int)) % (ins.length : Int) = (((k + 1 + k2) % ins.length : Nat) : Int) := by rw [Int.natCast_emod]; push_cast; rfl
          have hk1 : k < ins.length := by omega
          have hk2 : k2 + 1 < ins.length := by omega
          have ho : (k + 1 + k2) % ins.length < ins.length := Nat.mod_lt _ (by omega)
          have hne : (k + 1 + k2) % ins.length ≠ k := by
            by_cases c : k + 1 + k2 < ins.length
            · rw [Nat.mod_eq_of_lt c]; omega
            · rw [Nat.mod_eq_sub_mod (by omega), Nat.mod_eq_of_lt (by omega)]; omega
          generalize hoo : (k + 1 + k2) % ins.length = o at eo ho hne
          have f8 := f5.trans (f6.trans f7)
          have f58 := f6.trans f7
          have h3c := f58.keep _ _ h3 c1 c2
          have hdis7 := hdis.mono (f58.ext f5.deck)
          have nth : ∀ m, m < ins.length → ∃ a r y, ins[m]? = some r ∧ is[m]? = some (.ref a) ∧ SqT K H7 a [.str r.1, y] := fun m hm => by
            obtain ⟨v, ev, dv⟩ := hdis7.get (i := m) (d := inD ins[m]) (by rw [List.getElem?_map, List.getElem?_eq_getElem hm]; rfl)
            obtain ⟨a, y, rfl, aT, _⟩ := in_den dv
            exact ⟨a, ins[m], y, List.getElem?_eq_getElem hm, ev, aT⟩
          obtain ⟨am, rm, ym, em, im, mT⟩ := nth (min k o) (by omega)
          obtain ⟨ax, rx, yx, ex, ix, xT⟩ := nth (max k o) (by omega)
          have emn : (if ((o : Nat) : Int) < (k : Int) then ((o : Nat) : Int) else (k : Int)) = ((min k o : Nat) : Int) := by split <;> omega
          have emx : (if ((o : Nat) : Int) > (k : Int) then ((o : Nat) : Int) else (k : Int)) = ((max k o : Nat) : Int) := by split <;> omega
          have nq : rm.1 ≠ rx.1 := fun z => by
            have hlt : min k o < max k o := by omega
            have h1 := (List.getElem?_eq_some_iff.mp em)
            have h2 := (List.getElem?_eq_some_iff.mp ex)
            refine List.pairwise_iff_getElem.mp ndi (min k o) (max k o) (by simp; omega) (by simp; omega) hlt ?_
            rw [List.getElem_map, List.getElem_map, h1.2, h2.2]; exact z
          refine ⟨_, rfl, _, rfl, _, rfl, _, rfl, (k : Int), (o : Int), congrArg (fun z : Int => [V.int (k : Int), V.int z]) eo, il, is, _, _, rfl, rfl, SqL.of h2c, by rw [emn]; exact atI_nat im, am, _, _, _, rfl, rfl, mT, rfl, ?_⟩
          refine ⟨_, rfl, _, rfl, _, rfl, (k : Int), (o : Int), congrArg (fun z : Int => [V.int (k : Int), V.int z]) eo, il, is, _, _, rfl, rfl, SqL.of h2c, by rw [emx]; exact atI_nat ix, ax, _, _, _, rfl, rfl, xT, rfl, szl (show 2 ≤ 1000000 by decide), fun b nb => ?_⟩
          have tb := same_new (o := .tup [.str rm.1, .str rx.1]) nb
          have h3d := tb _ _ h3c
          have f9 := f8.then tb
          have lk : kvs.length ≤ 2 := by
            have := congrArg List.length hk
            simp at this; omega
          refine ⟨fd, _, rfl, DPut.t (k := ftK (rm.1, rx.1)) h3d upd_same (szlt (by omega)), ?_⟩
          have x9 : ExT K _ _ := ext_upd (o := .dT (putK kvs (ftK (rm.1, rx.1)) (.bl true))) h3d rfl
          have ftinj : ∀ a b : Str × Str, ftK a = ftK b → a = b := fun a b e => by
            unfold ftK at e
            injection e with e1 e2
            injection e2 with e2 _
            exact Prod.ext (Sum.inr.inj e1) (Sum.inr.inj e2)
          have m1 : rm.1 ∈ ins.map (·.1) := List.mem_map.mpr ⟨rm, List.mem_of_getElem? em, rfl⟩
          have m2' : rx.1 ∈ ins.map (·.1) := List.mem_map.mpr ⟨rx, List.mem_of_getElem? ex, rfl⟩
          by_cases hin : (rm.1, rx.1) ∈ fs
          · refine ⟨_, _, _, _, _, fs, rfl, fr_upd hD (f9) z3, by rw [upd_ne ne2]; exact tb _ _ h2c, (hdis7.mono (Same.ext tb)).mono x9, upd_same, ?_, by omega, hn, hf⟩
            rw [put_keysY (by rw [hk]; exact List.mem_map.mpr ⟨_, hin, rfl⟩)]
            exact hk
          · refine ⟨_, _, _, _, _, fs ++ [(rm.1, rx.1)], rfl, fr_upd hD (f9) z3, by rw [upd_ne ne2]; exact tb _ _ h2c, (hdis7.mono (Same.ext tb)).mono x9, upd_same, ?_, by rw [List.length_append]; simp only [List.length_singleton]; omega, ?_, fun r hr => ?_⟩
            · rw [put_keysN, hk, List.map_append]; · rfl
              rw [hk]
              intro z
              obtain ⟨q2, hq2, e2⟩ := List.mem_map.mp z
              rw [ftinj _ _ e2] at hq2
              exact hin hq2
            · exact L2.nd_snoc hn hin
            · rcases List.mem_append.mp hr with h | h
              · exact hf r h
              · rw [List.mem_singleton.mp h]
                exact ⟨m1, m2', nq⟩
        · rintro σ H5 ⟨o2, o6, o7, o8, kvs, fs, rfl, f5, h2, hdis, h3, hk, hl, hn, hf⟩
          exact fin H5 is kvs fs o2 o6 o7 o8 f5 h2 hdis h3 hk (by omega) hn hf
      · refine ⟨0, rfl, by decide, by decide, ?_⟩
        refine for_range (n := 0) (fun i σ H' => H' = H3 ∧ σ = [some (.ref d), some (.int (most : Int)), o2, some (.ref ll), some (.ref il), some (.ref fd), o6, o7, o8]) ⟨rfl, rfl⟩ (fun i σ H' hi => absurd hi (Nat.not_lt_zero _)) ?_
        rintro σ H5 ⟨rfl, rfl⟩
        exact fin H5 is [] [] o2 o6 o7 o8 f3 e2 dis e3 rfl (by decide) List.nodup_nil (fun r hr => by cases hr)
end
end K28
end
section
set_option Elab.async false
set_option linter.all false
set_option maxRecDepth 100000
set_option maxHeartbeats 4000000
set_option exponentiation.threshold 2000
namespace K28
open PySem L2
section
variable {P : Program} {w : World} {K : PySem.W.Frag} {mg : Str → Option Value} {base : Heap}
theorem sc_law_far : FnScope ["_law_deck_here", "_law_size", "_law_way"] ["_law_deck_here", "_law_size"] (defScope (top 101)) := ⟨rfl, rfl, rfl, by decide +kernel, rfl, by decide +kernel, by decide +kernel⟩
def sp_far : Sp := fun vs H Q _ => ∃ (d c : Addr) (n : Int), vs = [.ref d, .int n] ∧ Deck H d c ∧ 0 ≤ n ∧ n ≤ 100000 ∧ ∀ r H', 0 ≤ r → r ≤ n → Fr d c H H' → Q (.int r) H'
theorem ok_law_far (T : Tx K mg) : FnOk P w K mg base CX0 2 660 (fdA K 660) ["_law_deck_here", "_law_size"] sp_far := by
  refine (f_law_far T).ok sc_law_far (fun vs H Q E h => ?_) (fun cdv A outer s H vs Q E hr h => ⟨_, PSs.nox (pss_cons (ps_set (i := 2) sc_law_far.nd rfl (.inl rfl) (pe_call (ok_law_draw T) (hr.mono (by decide)) (by rfl) (g__law_draw T) (f_law_draw T).kp (b_law_draw T) .nil pass0 (pa_cons (pv 0) (pa_cons pe_int pa_nil))))
  (pss_cons (ps_if (pt_cmpR op_lt (pv 2) pe_int (nomark _)) (pss_one (ps_ret (pe_ifExp (pt_cmpR op_eq (pv 2) pe_int (nomark _)) (pv 1) pe_int))) pss_nil)
  (pss_one (ps_ret (pe_callB (call_min2 rfl) (by rfl) (free_min T) (by decide +kernel) (pa_cons (pv 1) (pa_cons (pe_ifExp (pt_cmpR op_lt (pv 1) (pe_op op_pow pe_int pe_int) (nomark _)) (pe_call (ok_law_draw T) (hr.mono (by decide)) (by rfl) (g__law_draw T) (f_law_draw T).kp (b_law_draw T) .nil pass0 (pa_cons (pv 0) (pa_cons (pe_op op_add (pv 1) pe_int) pa_nil))) (pe_op op_add (pe_op op_fdiv (pe_op op_mul (pv 1) (pe_call (ok_law_draw T) (hr.mono (by decide)) (by rfl) (g__law_draw T) (f_law_draw T).kp (b_law_draw T) .nil pass0 (pa_cons (pv 0) (pa_cons pe_int pa_nil)))) pe_int) (pv 2))) pa_nil))))))), ?_⟩)
  · obtain ⟨d, c, n, rfl, _⟩ := h; rfl
  · obtain ⟨d, c, n, rfl, hD, n0, n1, q⟩ := h
    refine ⟨_, rfl, d, c, 6, rfl, hD, by decide, by decide, fun r H1 r0 r1 f1 => ?_⟩
    refine ⟨_, rfl, _, _, rfl, rfl, _, rfl, lastB _ (fun y => ?_) (fun y => ?_)⟩
    · refine ⟨_, rfl, rfl, _, rfl, lastB _ (fun z => ⟨_, rfl, q n H1 n0 (Int.le_refl _) f1⟩) (fun z => q 0 H1 (Int.le_refl _) n0 f1)⟩
    · refine ⟨_, rfl, _, rfl, _, _, rfl, rfl, ⟨by decide, by decide, by decide⟩, _, _, rfl, rfl, _, rfl, lastB _ (fun z => ?_) (fun z => ?_)⟩
      · refine ⟨_, rfl, _, rfl, _, _, rfl, rfl, d, c, _, rfl, f1.deck, by omega, by omega, fun r2 H2 r20 r21 f2 => ?_⟩
        exact ⟨_, _, rfl, q _ H2 (by split <;> omega) (by split <;> omega) (f1.trans f2)⟩
      · have : ¬ n < 10 ^ 6 := of_decide_eq_false z
        exact absurd (by omega : n < 10 ^ 6) this
theorem sc_law_at : FnScope ["_law_shut", "_law_point", "_law_x", "_law_y"] ["_law_shut", "_law_point"] (defScope (top 106)) := ⟨rfl, rfl, rfl, by decide +kernel, rfl, by decide +kernel, by decide +kernel⟩
theorem ok_law_at (T : Tx K mg) : FnOk P w K mg base CX0 1 685 (fdA K 685) ["_law_shut", "_law_point"] (sp_value_at K) := by
  refine (f_law_at T).ok sc_law_at (fun vs H Q E h => ?_) (fun cdv A outer s H vs Q E hr h => ⟨_, PSs.nox (pss_one (ps_ret (pe_callB (k_sum K rfl) (by rfl) (free_sum T) (by decide +kernel) (pa_cons (pe_lc (own := [("_law_x", 2), ("_law_y", 3)]) rfl sc_law_at.nd (k_zip K false false (by rfl) (free_zip T) (pa_cons (pv 0) (pa_cons (pv 1) pa_nil))) (blkOk_by (N := ["_law_shut", "_law_point", "_law_x", "_law_y"]) (sc := (defScope (top 106))) (by decide +kernel)) (fun _ _ _ _ _ => (k_tgt K 2 rfl (pgs_cons (pg_name (i := 2) sc_law_at.nd rfl (.inl rfl) (hf := (.inr rfl))) (pgs_cons (pg_name (i := 3) sc_law_at.nd rfl (.inl rfl) (hf := (.inr rfl))) pgs_nil)))) (fun _ _ _ _ _ => pts_nil) (fun _ _ _ _ _ => (pe_op op_mulW (pv 2) (pv 3)))) pa_nil)))), ?_⟩)
  · obtain ⟨u, v, xs, ys, rfl, _⟩ := h; rfl
  · obtain ⟨u, v, xs, ys, rfl, hu, hv, hz, b1, b2, q⟩ := h
    obtain ⟨a, rfl, hA⟩ := hu.wd
    obtain ⟨b, rfl, hB⟩ := hv.wd
    refine ⟨_, rfl, _, rfl, a, b, _, _, rfl, hA, hB, fun D nD => lc_zipI nD hA hB (fun x y => x * y) (by omega) (fun _ _ => rfl) (fun x y Q' H2 hx hy s2 q' => ?_) (fun H' s2 eD => ?_)⟩
    · exact ⟨_, rfl, _, rfl, x, y, rfl, rfl, big_mul (b1 x hx) (b2 y hy), q'⟩
    · exact ⟨D, _, rfl, SqL.of eD, q H' s2⟩
theorem sc_law_is_integer : FnScope ["_law_thing"] ["_law_thing"] (defScope (top 109)) := ⟨rfl, rfl, rfl, by decide +kernel, rfl, by decide +kernel, by decide +kernel⟩
theorem ok_law_is_integer (T : Tx K mg) : FnOk P w K mg base CX0 1 702 (fdA K 702) ["_law_thing"] sp_is_integer := by
  refine (f_law_is_integer T).ok sc_law_is_integer (fun vs H Q E h => ?_) (fun cdv A outer s H vs Q E hr h => ⟨_, PSs.nox (pss_one (ps_ret (pe_and (pe_callB (k_isi K) (by rfl) (free_isinstance T) (by decide +kernel) (pa_cons (pv 0) (pa_cons (pe_bltn (v := .ty "int") (by rfl) (free_int T) (by decide +kernel) rfl) pa_nil))) (pe_one (pe_not (pe_callB (k_isi K) (by rfl) (free_isinstance T) (by decide +kernel) (pa_cons (pv 0) (pa_cons (pe_bltn (v := .ty "bool") (by rfl) (free_bool T) (by decide +kernel) rfl) pa_nil)))))))), ?_⟩)
  · obtain ⟨i, rfl, _⟩ := h; rfl
  · obtain ⟨i, rfl, q⟩ := h
    refine ⟨_, rfl, use_isi (.base (.int i)) (by decide +kernel) ⟨true, rfl, iteT ?_⟩⟩
    exact ⟨_, rfl, use_isi (.base (.int i)) (by decide +kernel) ⟨false, rfl, q⟩⟩
theorem sc_law_two : FnScope ["_law_form", "_law_kind_here", "_law_first", "_law_x"] ["_law_form", "_law_kind_here"] (defScope (top 104)) := ⟨rfl, rfl, rfl, by decide +kernel, rfl, by decide +kernel, by decide +kernel⟩
theorem neg_times (f : List Int) : f.map (fun x => -x) = timesF (-1) f := by
  unfold timesF
  refine List.map_congr_left fun x _ => ?_
  omega
def sp_two (K : PySem.W.Frag) : Sp := fun vs H Q _ => ∃ (u v : V) (f : List Int) (k : Kd), vs = [u, v] ∧ Den K H (wd f) u ∧ Den K H k.d v ∧ f.length ≤ 500 ∧ ∀ y H', Same H H' → Den K H' (rowsD (kwalls f k)) y → Q y H'
theorem ok_law_two (T : Tx K mg) : FnOk P w K mg base CX0 1 675 (fdA K 675) ["_law_form", "_law_kind_here"] (sp_two K) := by
  refine (f_law_two T).ok sc_law_two (fun vs H Q E h => ?_) (fun cdv A outer s H vs Q E hr h => ⟨_, PSs.nox (pss_cons (ps_set (i := 2) sc_law_two.nd rfl (.inl rfl) (pe_op (k_cat K) (pe_callTy (k_tuple K) (by rfl) (free_tuple T) (by decide +kernel) (pa_cons (pe_lc (own := [("_law_x", 3)]) rfl sc_law_two.nd (k_pit K (pv 0)) (blkOk_by (N := ["_law_form", "_law_kind_here", "_law_first", "_law_x"]) (sc := (defScope (top 104))) (by decide +kernel)) (fun _ _ _ _ _ => (pg_name (i := 3) sc_law_two.nd rfl (.inl rfl) (hf := (.inr rfl)))) (fun _ _ _ _ _ => pts_nil) (fun _ _ _ _ _ => (pe_un un_neg (pv 3)))) pa_nil)) (pe_tup (pa_cons (pe_ix (k_ixT K) (pv 1) pe_int (fun _ _ => rfl)) pa_nil))))
  (pss_one (ps_ret (pe_tup (pa_cons (pv 2) (pa_cons (pe_op (k_cat K) (pv 0) (pe_tup (pa_cons (pe_ifExp (pt_cmpR op_eq (pe_ix (k_ixT K) (pv 1) pe_int (fun _ _ => rfl)) pe_str (nomark _)) (pe_ix (k_ixT K) (pv 1) pe_int (fun _ _ => rfl)) pe_int) pa_nil))) pa_nil)))))), ?_⟩)
  · obtain ⟨u, v, f, k, rfl, _⟩ := h; rfl
  · obtain ⟨u, v, f, k, rfl, hu, hv, hz, q⟩ := h
    obtain ⟨a, rfl, aT⟩ := hu.wd
    obtain ⟨b, rfl, bT⟩ := kd_den hv
    refine ⟨_, rfl, a, rfl, ⟨_, aT⟩, fun D nD => lc_tupI nD aT (fun x => -x) (by omega) (fun _ => by rfl) (fun x Q' H2 hx s2 q' => ⟨_, rfl, _, rfl, q'⟩) (fun H2 s2 eD => ?_)⟩
    refine ⟨D, _, rfl, .inl ⟨SqL.of eD, fun l nl => ?_⟩⟩
    have s3 := s2.trans (same_new (o := .tup ((f.map fun x => -x).map V.int)) nl)
    refine ⟨_, rfl, b, _, _, _, rfl, rfl, Same.ext s3 _ _ bT, rfl, szl (show 1 ≤ 1000000 by decide), fun t nt => ?_⟩
    refine cat_one (Same.ext (same_new nt) _ _ (.inl (.inl upd_same))) (.inl (.inl upd_same)) (by simp; omega) fun w1 H4 s4 d1 => ?_
    rw [neg_times] at d1
    have s04 := s3.trans ((same_new (o := .tup [.int (k.k : Int)]) nt).trans s4)
    have aT4 := Same.ext s04 _ _ aT
    have bT4 := Same.ext s04 _ _ bT
    have fin : ∀ low : Int, low = (if k.both then (k.k : Int) else 0) → ∀ t2, H4 t2 = none → ∀ (Q' : VK), (∀ v H', Same (upd H4 t2 (.tup [.int low])) H' → Den K H' (wd (f ++ [if k.both then (k.k : Int) else 0])) v → Q' v H') → kCat K (.ref a) (.ref t2) (upd H4 t2 (.tup [.int low])) Q' := by
      intro low el t2 nt2 Q' q'
      refine cat_one (Same.ext (same_new nt2) _ _ aT4) (.inl (.inl upd_same)) (by omega) fun w2 H5 s5 d2 => q' _ _ s5 ?_
      rw [← el]; exact d2
    have last : ∀ low t2, H4 t2 = none → ∀ v H', Same (upd H4 t2 (.tup [.int low])) H' → Den K H' (wd (f ++ [if k.both then (k.k : Int) else 0])) v → ([w1, v].length ≤ sizeLine ∧ ∀ p, H' p = none → Q (.ref p) (upd H' p (.tup [w1, v]))) := fun low t2 nt2 v H' s5 d2 => by
      refine ⟨szl (show 2 ≤ 1000000 by decide), fun p np => ?_⟩
      have s6 := (same_new (o := .tup [.int low]) nt2).trans s5
      exact q _ _ (s04.trans (s6.trans (same_new np))) (den_new np (denL_cons (d1.mono (Same.ext s6)) (denL_cons d2 denL_nil)))
    refine ⟨_, rfl, _, rfl, _, rfl, b, _, _, _, rfl, rfl, bT4, rfl, rfl, _, rfl, lastB _ (fun y => ?_) (fun y => ?_)⟩
    · refine ⟨_, rfl, b, _, _, _, rfl, rfl, bT4, rfl, szl (show 1 ≤ 1000000 by decide), fun t2 nt2 => fin _ ?_ t2 nt2 _ (last _ t2 nt2)⟩
      cases h : k.both with
      | true => rfl
      | false => rw [h] at y; exact absurd y (by decide)
    · refine ⟨szl (show 1 ≤ 1000000 by decide), fun t2 nt2 => fin 0 ?_ t2 nt2 _ (last 0 t2 nt2)⟩
      rw [if_neg]
      intro z
      rw [z] at y
      exact absurd y (by decide)
end
end K28
end
section
set_option Elab.async false
set_option linter.all false
set_option maxRecDepth 100000
set_option maxHeartbeats 4000000
set_option exponentiation.threshold 2000
namespace K28
open PySem L2
theorem unit_eq {n i : Nat} (h : i < n) : List.replicate i (0 : Int) ++ [1] ++ List.replicate (n - i - 1) 0 = unitF n i := by
  unfold unitF
  apply List.ext_getElem
  · simp; omega
  · intro j h1 h2
    simp only [List.length_map, List.length_range] at h2
    rw [List.getElem_map, List.getElem_range]
    by_cases c : j < i
    · rw [List.getElem_append_left (by simp; omega), List.getElem_append_left (by simpa using c), List.getElem_replicate, if_neg (by omega)]
    · by_cases e : j = i
      · subst e
        rw [List.getElem_append_left (by simp), List.getElem_append_right (by simp)]
        simp
      · rw [List.getElem_append_right (by simp; omega), List.getElem_replicate, if_neg (fun z => e z.symm)]
section
variable {P : Program} {w : World} {K : PySem.W.Frag} {mg : Str → Option Value} {base : Heap}
/-- (0,) * k -/
theorem rep_zero {H : Hp} {p : Addr} {k : Int} {Q : VK} (hp : SqT K H p [.int 0]) (h0 : 0 ≤ k) (h1 : k ≤ 1000) (q : ∀ c H', Same H H' → SqT K H' c ((List.replicate k.toNat (0 : Int)).map V.int) → Q (.ref c) H') : kRep K (.ref p) (.int k) H Q := by
  refine use_rep hp (by simp) h0 h1 (show 1 ≤ 1000 by decide) fun c H' s hc => q c H' s ?_
  rw [rep_one] at hc
  rw [List.map_replicate]; exact hc
def formsL (ins : List (Str × Kd)) (b : List Stm) (i : Nat) : List Dt := (List.range i).map fun j => wd (formAt ins b j)
theorem sc_law_forms : FnScope ["_law_program", "_law_forms_here", "_law_found", "_law_at_here", "_law_pair", "_law_word", "_law_name", "_law_kind_here", "_law_one", "_law_other", "_law_sign", "_law_x", "_law_y"] ["_law_program"] (defScope (top 103)) := ⟨rfl, rfl, rfl, by decide +kernel, rfl, by decide +kernel, by decide +kernel⟩
def sp_forms (K : PySem.W.Frag) : Sp := fun vs H Q _ => ∃ (u : V) (p : Pg), vs = [u] ∧ PgAt K H p u ∧ PgOk p ∧ ∀ t d l H', Same H H' → SqT K H' t [.ref d, .ref l] → DD K H' d (feD (envF p.ins p.body)) → LD K H' l (formsL p.ins p.body p.body.length) → Q (.ref t) H'
theorem ok_law_forms (T : Tx K mg) : FnOk P w K mg base CX0 1 670 (fdA K 670) ["_law_program"] (sp_forms K) := by
  refine (f_law_forms T).ok sc_law_forms (fun vs H Q E h => ?_) (fun cdv A outer s H vs Q E hr h => ⟨_, PSs.nox (pss_cons (ps_par (i := 1) (j := 2) rfl sc_law_forms.nd rfl rfl (by decide) rfl rfl (pa_cons pe_dnewK (pa_cons (pe_lst pa_nil) pa_nil)) (by rfl))
  (pss_cons (ps_for PassesOwn.never rfl (k_enum K false (by rfl) (free_enumerate T) (pa_cons (pe_ix (k_ixT K) (pv 0) pe_int (fun _ _ => rfl)) pa_nil)) (k_tgt K 2 rfl (pgs_cons (pg_name (i := 3) sc_law_forms.nd rfl (.inl rfl) (hf := (.inl rfl))) (pgs_cons (pg_name (i := 4) sc_law_forms.nd rfl (.inl rfl) (hf := (.inl rfl))) pgs_nil)))
    (pss_one (ps_dput (hu_of hr) (pv 1) (pe_ix (k_ixT K) (pv 4) pe_int (fun _ _ => rfl)) (pe_op (k_cat K) (pe_op (k_cat K) (pe_op (k_rep K) (pe_tup (pa_cons pe_int pa_nil)) (pv 3)) (pe_tup (pa_cons pe_int pa_nil))) (pe_op (k_rep K) (pe_tup (pa_cons pe_int pa_nil)) (pe_op op_sub (pe_op op_sub (pe_callB (k_len K) (by rfl) (free_len T) (by decide +kernel) (pa_cons (pe_ix (k_ixT K) (pv 0) pe_int (fun _ _ => rfl)) pa_nil)) (pv 3)) pe_int))) rfl)))
  (pss_cons (ps_for PassesOwn.never rfl (k_pit K (pe_ix (k_ixT K) (pv 0) pe_int (fun _ _ => rfl))) (k_tgt K 5 rfl (pgs_cons (pg_name (i := 5) sc_law_forms.nd rfl (.inl rfl) (hf := (.inl rfl))) (pgs_cons (pg_name (i := 6) sc_law_forms.nd rfl (.inl rfl) (hf := (.inl rfl))) (pgs_cons (pg_name (i := 7) sc_law_forms.nd rfl (.inl rfl) (hf := (.inl rfl))) (pgs_cons (pg_name (i := 8) sc_law_forms.nd rfl (.inr rfl) (hf := (.inl rfl))) (pgs_cons (pg_name (i := 9) sc_law_forms.nd rfl (.inl rfl) (hf := (.inl rfl))) pgs_nil))))))
    (pss_cons (ps_if (pt_cmpR op_eq (pv 5) pe_str (nomark _)) (pss_one (ps_dput (hu_of hr) (pv 1) (pv 6) (pe_callTy (k_tuple K) (by rfl) (free_tuple T) (by decide +kernel) (pa_cons (pe_lc (own := [("_law_x", 11)]) rfl sc_law_forms.nd (k_pit K (pe_dget (hu_of hr) (pv 1) (pv 9) (fun _ _ => rfl))) (blkOk_by (N := ["_law_program", "_law_forms_here", "_law_found", "_law_at_here", "_law_pair", "_law_word", "_law_name", "_law_kind_here", "_law_one", "_law_other", "_law_sign", "_law_x", "_law_y"]) (sc := (defScope (top 103))) (by decide +kernel)) (fun _ _ _ _ _ => (pg_name (i := 11) sc_law_forms.nd rfl (.inl rfl) (hf := (.inr rfl)))) (fun _ _ _ _ _ => pts_nil) (fun _ _ _ _ _ => (pe_op op_mul (pv 8) (pv 11)))) pa_nil)) rfl)) (pss_cons (ps_set (i := 10) sc_law_forms.nd rfl (.inr rfl) (pe_ifExp (pt_cmpR op_eq (pv 5) pe_str (nomark _)) pe_int (pe_un un_neg pe_int)))
  (pss_one (ps_dput (hu_of hr) (pv 1) (pv 6) (pe_callTy (k_tuple K) (by rfl) (free_tuple T) (by decide +kernel) (pa_cons (pe_lc (own := [("_law_x", 11), ("_law_y", 12)]) rfl sc_law_forms.nd (k_zip K false false (by rfl) (free_zip T) (pa_cons (pe_dget (hu_of hr) (pv 1) (pv 8) (fun _ _ => rfl)) (pa_cons (pe_dget (hu_of hr) (pv 1) (pv 9) (fun _ _ => rfl)) pa_nil))) (blkOk_by (N := ["_law_program", "_law_forms_here", "_law_found", "_law_at_here", "_law_pair", "_law_word", "_law_name", "_law_kind_here", "_law_one", "_law_other", "_law_sign", "_law_x", "_law_y"]) (sc := (defScope (top 103))) (by decide +kernel)) (fun _ _ _ _ _ => (k_tgt K 2 rfl (pgs_cons (pg_name (i := 11) sc_law_forms.nd rfl (.inl rfl) (hf := (.inr rfl))) (pgs_cons (pg_name (i := 12) sc_law_forms.nd rfl (.inl rfl) (hf := (.inr rfl))) pgs_nil)))) (fun _ _ _ _ _ => pts_nil) (fun _ _ _ _ _ => (pe_op op_add (pv 11) (pe_op op_mul (pv 10) (pv 12))))) pa_nil)) rfl))))
  (pss_one (ps_expr (pe_bm PySem.F.plainAttrs_list PySem.F.slot_list_append PySem.F.type_list_append mt_append (pv 2) (pa_cons (pe_dget (hu_of hr) (pv 1) (pv 6) (fun _ _ => rfl)) pa_nil))))))
  (pss_one (ps_ret (pe_tup (pa_cons (pv 1) (pa_cons (pv 2) pa_nil)))))))), ?_⟩)
  · obtain ⟨u, p, rfl, _⟩ := h; rfl
  · obtain ⟨u, p, rfl, ⟨a, x1, x2, x3, x4, rfl, hp⟩, ok, q⟩ := h
    have i2 := ok.ins.in2
    have bl := ok.blen
    refine fun d nd => ⟨szl (show 0 ≤ 1000000 by decide), fun l nl => ⟨_, _, rfl, ?_⟩⟩
    have s1 := (same_new (o := .dK []) nd).trans (same_new (o := .lst []) nl)
    have ne : d ≠ l := ne_of_none upd_same nl
    have nl0 : H l = none := noneBack nl (same_new nd)
    have hd1 : DD K (upd (upd H d (.dK [])) l (.lst [])) d (insT p.ins 0) := DD.new.same (same_new nl)
    have hl1 : upd (upd H d (.dK [])) l (.lst []) l = some (.lst []) := upd_same
    generalize upd (upd H d (.dK [])) l (.lst []) = H1 at s1 hd1 hl1 ⊢
    obtain ⟨ai, us, rfl, iT, iL⟩ := hp.ins.den
    have ln := iL.length
    rw [List.length_map] at ln
    refine ⟨_, rfl, a, _, _, _, rfl, rfl, Same.ext s1 _ _ hp.tup, rfl, ai, us, rfl, Same.ext s1 _ _ iT, ?_⟩
    refine for_it (walk_enumB (k := false) (K := K) (a := ai) (xs := us)) (fun i σ H' => (∃ o3 o4 o5 o6 o7 o8 o9 o10 o11 o12, σ = [some (.ref a), some (.ref d), some (.ref l), o3, o4, o5, o6, o7, o8, o9, o10, o11, o12]) ∧ Same H H' ∧ DD K H' d (insT p.ins i) ∧ H' l = some (.lst []))
      ⟨⟨_, _, _, _, _, _, _, _, _, _, rfl⟩, s1, hd1, hl1⟩ (fun i σ H' _ h => Same.ext h.2.1 _ _ iT) ?_ ?_
    · rintro i x σ H3 H4 hi ⟨⟨o3, o4, o5, o6, o7, o8, o9, o10, o11, o12, rfl⟩, s3, hd, hl⟩ ⟨A', e1, e2, rfl, nA, rfl, ee, ef⟩
      cases (Option.some.inj ee)
      have ef2 : us[i]? = some e2 := ef
      have s4 : Same H (upd H3 A' (.tup [.int (i : Int), e2])) := s3.trans (same_new nA)
      have hd4 := hd.same (same_new (o := .tup [.int (i : Int), e2]) nA)
      have hl4 := (same_new (o := .tup [.int (i : Int), e2]) nA) _ _ hl
      have tA : SqT K (upd H3 A' (.tup [.int (i : Int), e2])) A' [.int (i : Int), e2] := .inl (.inl upd_same)
      generalize upd H3 A' (.tup [.int (i : Int), e2]) = H4 at s4 hd4 hl4 tA ⊢
      obtain ⟨r, er, dr⟩ := map_at1 (DenL.mono (Same.ext s4) iL) ef2
      obtain ⟨ar, y, rfl, rT, dy⟩ := in_den dr
      have hi2 : i < p.ins.length := (List.getElem?_eq_some_iff.mp er).1
      have er2 : p.ins.getD i ("", ⟨true, 0⟩) = r := by rw [List.getD_eq_getElem?_getD, er]; rfl
      refine g_pair tA ?_
      refine ⟨szl (show 1 ≤ 1000000 by decide), fun t1 n1 => ⟨_, rfl, rep_zero (.inl (.inl upd_same)) (by omega) (by omega) fun c1 H5 s5 hc1 => ⟨szl (show 1 ≤ 1000000 by decide), fun t2 n2 => ?_⟩⟩⟩
      have s6 := (same_new (o := .tup [.int 0]) n1).trans (s5.trans (same_new (o := .tup [.int 1]) n2))
      have z1 : SqT K (upd H5 t2 (.tup [.int 1])) t2 (([1] : List Int).map V.int) := .inl (.inl upd_same)
      refine use_cat (Same.ext (same_new n2) _ _ hc1) z1 (by simp; omega) fun c2 H6 s7 hc2 => ⟨szl (show 1 ≤ 1000000 by decide), fun t3 n3 => ?_⟩
      have s8 := s6.trans (s7.trans (same_new (o := .tup [.int 0]) n3))
      have s48 := s4.trans s8
      refine ⟨_, rfl, a, _, _, _, rfl, rfl, Same.ext s48 _ _ hp.tup, rfl, ai, us, rfl, .inr (Same.ext s48 _ _ iT), _, rfl, _, _, rfl, rfl, _, _, rfl, rfl, ?_⟩
      refine rep_zero (.inl (.inl upd_same)) (by omega) (by omega) fun c3 H7 s9 hc3 => ?_
      have hc2' := Same.ext ((same_new (o := .tup [.int 0]) n3).trans s9) _ _ hc2
      refine use_cat hc2' hc3 (by simp; omega) fun c4 H8 s10 hc4 => ?_
      have sZ := s8.trans (s9.trans s10)
      have dU : Den K H8 (wd (unitF p.ins.length i)) (.ref c4) := by
        refine den_wd ?_
        rw [← unit_eq hi2, List.map_append, List.map_append]
        have e1 : ((i : Int)).toNat = i := rfl
        have e2 : ((us.length : Int) - (i : Int) - 1).toNat = p.ins.length - i - 1 := by omega
        rw [e1, e2] at hc4
        exact hc4
      have hd8 := hd4.same sZ
      obtain ⟨kvs, ek, pk⟩ := id hd8
      have lk := DR.len pk
      have li : (insT p.ins i).length = i := by unfold insT; simp
      obtain ⟨kv, hput, hd9⟩ := hd8.put (x := r.1) (d := wd (unitF p.ins.length i)) (v := .ref c4) dU (by omega)
      refine ⟨_, rfl, _, rfl, ar, _, _, _, rfl, rfl, Same.ext sZ _ _ rT, rfl, d, _, rfl, hput, ⟨_, _, _, _, _, _, _, _, _, _, rfl⟩, same_upd (s4.trans sZ) nd, ?_, by rw [upd_ne (fun z => ne z.symm)]; exact sZ _ _ hl4⟩
      rw [← er2, insT_snoc ok.ins.nd hi2] at hd9
      exact hd9
    · rintro σ H3 ⟨⟨o3, o4, o5, o6, o7, o8, o9, o10, o11, o12, rfl⟩, s3, hd, hl⟩
      rw [ln, insT_all] at hd
      obtain ⟨ab, bs, rfl, bT, bL⟩ := id hp.body
      have lb := bL.length
      rw [List.length_map] at lb
      refine ⟨_, rfl, a, _, _, _, rfl, rfl, Same.ext s3 _ _ hp.tup, rfl, ab, rfl, ⟨bs, Same.ext s3 _ _ bT⟩, ?_⟩
      refine for_it (walk_tup (K := K) (a := ab) (xs := bs)) (fun i σ H' => (∃ o3 o4 o5 o6 o7 o8 o9 o10 o11 o12, σ = [some (.ref a), some (.ref d), some (.ref l), o3, o4, o5, o6, o7, o8, o9, o10, o11, o12]) ∧ Same H H' ∧ DD K H' d (feD (envF p.ins (p.body.take i))) ∧ LD K H' l (formsL p.ins p.body i))
        ⟨⟨_, _, _, _, _, _, _, _, _, _, rfl⟩, s3, hd, [], hl, rfl⟩ (fun i σ H' _ h => Same.ext h.2.1 _ _ bT) ?_ ?_
      · rintro i x σ H4 H5 hi ⟨⟨o3, o4, o5, o6, o7, o8, o9, o10, o11, o12, rfl⟩, s4, hd4, hl4⟩ ⟨rfl, ex⟩
        obtain ⟨p2, ep, dp⟩ := map_at1 (DenL.mono (Same.ext s4) bL) ex
        have okp := ok.body i p2 ep
        have hi2 : i < p.body.length := (List.getElem?_eq_some_iff.mp ep).1
        obtain ⟨ap, y, m, rfl, pT, hy, hm⟩ := st_den dp
        have hu := uses_env okp.right
        have fl := envF_len ok.body i (by omega)
        refine ⟨ap, _, rfl, pT, rfl, _, _, rfl, _, _, rfl, _, _, rfl, _, _, rfl, _, _, rfl, rfl, ?_⟩
        obtain ⟨vo, go, dvo⟩ := hd4.get (getL_feD hu.2.2)
        obtain ⟨ao, rfl, oT⟩ := dvo.wd
        have lo : (getI (envF p.ins (p.body.take i)) p2.other).length = p.ins.length := getI_len fl (by have := hu.2.2; rw [isSome_iff, names_feD] at this; exact this)
        by_cases e : p2.op = .times
        · obtain rfl := mid_int hm e
          have hf := hu.1 e
          refine ⟨_, rfl, rfl, true, by rw [e]; rfl, iteT ?_⟩
          refine ⟨_, rfl, _, rfl, d, _, rfl, go, ao, rfl, ⟨_, oT⟩, fun D nD => lc_tupI nD oT (fun x => p2.fac * x) (by omega) (fun _ => by rfl) (fun x Q' H2 hx s2 q' => ⟨_, rfl, _, rfl, _, _, rfl, rfl, .inl (by omega), q'⟩) (fun HD sD eD => ?_)⟩
          refine ⟨D, _, rfl, .inl ⟨SqL.of eD, fun lt nlt => ?_⟩⟩
          have sZ := sD.trans (same_new (o := .tup (((getI (envF p.ins (p.body.take i)) p2.other).map (fun x => p2.fac * x)).map V.int)) nlt)
          have ef : stForm (envF p.ins (p.body.take i)) p2 = (getI (envF p.ins (p.body.take i)) p2.other).map (fun x => p2.fac * x) := by unfold stForm; rw [e]; rfl
          have dF : Den K (upd HD lt (.tup (((getI (envF p.ins (p.body.take i)) p2.other).map (fun x => p2.fac * x)).map V.int))) (wd (stForm (envF p.ins (p.body.take i)) p2)) (.ref lt) := by rw [ef]; exact den_wd (.inl (.inl upd_same))
          generalize upd HD lt (.tup (((getI (envF p.ins (p.body.take i)) p2.other).map (fun x => p2.fac * x)).map V.int)) = HZ at sZ dF ⊢
          obtain ⟨kv, hput, hd9⟩ := (hd4.same sZ).put (x := p2.name) (d := wd (stForm (envF p.ins (p.body.take i)) p2)) (v := .ref lt) dF (by unfold feD; rw [List.length_map, envF_count, List.length_take]; omega)
          rw [feD_snoc ep okp.new] at hd9
          have sP : Same H (upd HZ d (.dK kv)) := same_upd (s4.trans sZ) nd
          have xP := DD.ext (kvs := kv) (hd4.same sZ)
          have hlP := (hl4.same sZ).mono xP (upd_ne (fun z => ne z.symm))
          refine ⟨_, rfl, _, rfl, d, _, rfl, hput, ?_⟩
          generalize upd HZ d (.dK kv) = H9 at sP hd9 hlP ⊢
          obtain ⟨vs9, ev9, dv9⟩ := hlP
          have lv9 := dv9.length
          have kn : (getL (feD (envF p.ins (p.body.take (i + 1)))) p2.name).isSome = true := by
            rw [isSome_iff, names_feD, envF_snoc ep]; simp
          obtain ⟨vq, gq, dq⟩ := hd9.get (getL_feD kn)
          have eI : getI (envF p.ins (p.body.take (i + 1))) p2.name = formAt p.ins p.body i := by
            have nn : getL (feD (envF p.ins (p.body.take i))) p2.name = none := by
              have := known_iff (ins := p.ins) (b := p.body.take i) (x := p2.name)
              rw [okp.new] at this
              cases e2 : getL (feD (envF p.ins (p.body.take i))) p2.name with
              | none => rfl
              | some d => rw [e2] at this; cases this
            have h1 := getL_feD kn
            have h2 : getL (feD (envF p.ins (p.body.take (i + 1)))) p2.name = some (wd (stForm (envF p.ins (p.body.take i)) p2)) := by
              rw [← feD_snoc ep okp.new, putL_new nn, getL_append, nn, getL_cons, if_pos rfl]; rfl
            rw [h1] at h2
            have h3 := wd_inj (Option.some.inj h2)
            unfold formAt
            rw [ep]; exact h3
          rw [eI] at dq
          refine ⟨_, rfl, .inl ⟨rfl, _, SqL.of ev9⟩, _, rfl, _, rfl, d, vq, rfl, gq, l, vs9, _, rfl, rfl, ev9, szlt (by unfold formsL at lv9; simp at lv9; omega), ⟨_, _, _, _, _, _, _, _, _, _, rfl⟩, same_upd sP nl0, hd9.mono (ext_upd ev9 rfl) (upd_ne ne), _, upd_same, ?_⟩
          unfold formsL
          rw [List.range_succ, List.map_append]
          exact (denL_snoc dv9 dq).mono (ext_upd ev9 rfl)
        · obtain rfl := mid_str hm e
          obtain ⟨v1, g1, dv1⟩ := hd4.get (getL_feD (hu.2.1 e))
          obtain ⟨a1, rfl, aT1⟩ := dv1.wd
          have l1 : (getI (envF p.ins (p.body.take i)) p2.one).length = p.ins.length := getI_len fl (by have := hu.2.1 e; rw [isSome_iff, names_feD] at this; exact this)
          refine ⟨_, rfl, rfl, false, ?_, iteF ?_⟩
          · cases h : p2.op with
            | times => exact absurd h e
            | plus => rfl
            | minus => rfl
          cases h : p2.op with
          | times => exact absurd h e
          | plus =>
            refine ⟨_, rfl, rfl, true, rfl, iteT ?_⟩
            refine ⟨_, rfl, _, rfl, d, _, rfl, g1, _, rfl, _, rfl, d, _, rfl, go, a1, ao, _, _, rfl, aT1, oT, fun D nD => lc_zipI nD aT1 oT (fun x y => x + (1 : Int) * y) (by omega) (fun _ _ => by rfl) (fun x y Q' H2 hx hy s2 q' => ⟨_, rfl, _, rfl, _, rfl, _, _, rfl, rfl, .inl (by decide), _, _, rfl, rfl, q'⟩) (fun HD sD eD => ?_)⟩
            refine ⟨D, _, rfl, .inl ⟨SqL.of eD, fun lt nlt => ?_⟩⟩
            have sZ := sD.trans (same_new (o := .tup ((List.zipWith (fun x y => x + (1 : Int) * y) (getI (envF p.ins (p.body.take i)) p2.one) (getI (envF p.ins (p.body.take i)) p2.other)).map V.int)) nlt)
            have ef : stForm (envF p.ins (p.body.take i)) p2 = List.zipWith (fun x y => x + (1 : Int) * y) (getI (envF p.ins (p.body.take i)) p2.one) (getI (envF p.ins (p.body.take i)) p2.other) := by unfold stForm; rw [h]; rfl
            have dF : Den K (upd HD lt (.tup ((List.zipWith (fun x y => x + (1 : Int) * y) (getI (envF p.ins (p.body.take i)) p2.one) (getI (envF p.ins (p.body.take i)) p2.other)).map V.int))) (wd (stForm (envF p.ins (p.body.take i)) p2)) (.ref lt) := by rw [ef]; exact den_wd (.inl (.inl upd_same))
            generalize upd HD lt (.tup ((List.zipWith (fun x y => x + (1 : Int) * y) (getI (envF p.ins (p.body.take i)) p2.one) (getI (envF p.ins (p.body.take i)) p2.other)).map V.int)) = HZ at sZ dF ⊢
            obtain ⟨kv, hput, hd9⟩ := (hd4.same sZ).put (x := p2.name) (d := wd (stForm (envF p.ins (p.body.take i)) p2)) (v := .ref lt) dF (by unfold feD; rw [List.length_map, envF_count, List.length_take]; omega)
            rw [feD_snoc ep okp.new] at hd9
            have sP : Same H (upd HZ d (.dK kv)) := same_upd (s4.trans sZ) nd
            have xP := DD.ext (kvs := kv) (hd4.same sZ)
            have hlP := (hl4.same sZ).mono xP (upd_ne (fun z => ne z.symm))
            refine ⟨_, rfl, _, rfl, d, _, rfl, hput, ?_⟩
            generalize upd HZ d (.dK kv) = H9 at sP hd9 hlP ⊢
            obtain ⟨vs9, ev9, dv9⟩ := hlP
            have lv9 := dv9.length
            have kn : (getL (feD (envF p.ins (p.body.take (i + 1)))) p2.name).isSome = true := by
              rw [isSome_iff, names_feD, envF_snoc ep]; simp
            obtain ⟨vq, gq, dq⟩ := hd9.get (getL_feD kn)
            have eI : getI (envF p.ins (p.body.take (i + 1))) p2.name = formAt p.ins p.body i := by
              have nn : getL (feD (envF p.ins (p.body.take i))) p2.name = none := by
                have := known_iff (ins := p.ins) (b := p.body.take i) (x := p2.name)
                rw [okp.new] at this
                cases e2 : getL (feD (envF p.ins (p.body.take i))) p2.name with
                | none => rfl
                | some d => rw [e2] at this; cases this
              have h1 := getL_feD kn
              have h2 : getL (feD (envF p.ins (p.body.take (i + 1)))) p2.name = some (wd (stForm (envF p.ins (p.body.take i)) p2)) := by
                rw [← feD_snoc ep okp.new, putL_new nn, getL_append, nn, getL_cons, if_pos rfl]; rfl
              rw [h1] at h2
              have h3 := wd_inj (Option.some.inj h2)
              unfold formAt
              rw [ep]; exact h3
            rw [eI] at dq
            refine ⟨_, rfl, .inl ⟨rfl, _, SqL.of ev9⟩, _, rfl, _, rfl, d, vq, rfl, gq, l, vs9, _, rfl, rfl, ev9, szlt (by unfold formsL at lv9; simp at lv9; omega), ⟨_, _, _, _, _, _, _, _, _, _, rfl⟩, same_upd sP nl0, hd9.mono (ext_upd ev9 rfl) (upd_ne ne), _, upd_same, ?_⟩
            unfold formsL
            rw [List.range_succ, List.map_append]
            exact (denL_snoc dv9 dq).mono (ext_upd ev9 rfl)
          | minus =>
            refine ⟨_, rfl, rfl, false, rfl, iteF ⟨_, rfl, ?_⟩⟩
            refine ⟨_, rfl, _, rfl, d, _, rfl, g1, _, rfl, _, rfl, d, _, rfl, go, a1, ao, _, _, rfl, aT1, oT, fun D nD => lc_zipI nD aT1 oT (fun x y => x + (-1 : Int) * y) (by omega) (fun _ _ => by rfl) (fun x y Q' H2 hx hy s2 q' => ⟨_, rfl, _, rfl, _, rfl, _, _, rfl, rfl, .inl (by decide), _, _, rfl, rfl, q'⟩) (fun HD sD eD => ?_)⟩
            refine ⟨D, _, rfl, .inl ⟨SqL.of eD, fun lt nlt => ?_⟩⟩
            have sZ := sD.trans (same_new (o := .tup ((List.zipWith (fun x y => x + (-1 : Int) * y) (getI (envF p.ins (p.body.take i)) p2.one) (getI (envF p.ins (p.body.take i)) p2.other)).map V.int)) nlt)
            have ef : stForm (envF p.ins (p.body.take i)) p2 = List.zipWith (fun x y => x + (-1 : Int) * y) (getI (envF p.ins (p.body.take i)) p2.one) (getI (envF p.ins (p.body.take i)) p2.other) := by unfold stForm; rw [h]; rfl
            have dF : Den K (upd HD lt (.tup ((List.zipWith (fun x y => x + (-1 : Int) * y) (getI (envF p.ins (p.body.take i)) p2.one) (getI (envF p.ins (p.body.take i)) p2.other)).map V.int))) (wd (stForm (envF p.ins (p.body.take i)) p2)) (.ref lt) := by rw [ef]; exact den_wd (.inl (.inl upd_same))
            generalize upd HD lt (.tup ((List.zipWith (fun x y => x + (-1 : Int) * y) (getI (envF p.ins (p.body.take i)) p2.one) (getI (envF p.ins (p.body.take i)) p2.other)).map V.int)) = HZ at sZ dF ⊢
            obtain ⟨kv, hput, hd9⟩ := (hd4.same sZ).put (x := p2.name) (d := wd (stForm (envF p.ins (p.body.take i)) p2)) (v := .ref lt) dF (by unfold feD; rw [List.length_map, envF_count, List.length_take]; omega)
            rw [feD_snoc ep okp.new] at hd9
            have sP : Same H (upd HZ d (.dK kv)) := same_upd (s4.trans sZ) nd
            have xP := DD.ext (kvs := kv) (hd4.same sZ)
            have hlP := (hl4.same sZ).mono xP (upd_ne (fun z => ne z.symm))
            refine ⟨_, rfl, _, rfl, d, _, rfl, hput, ?_⟩
            generalize upd HZ d (.dK kv) = H9 at sP hd9 hlP ⊢
            obtain ⟨vs9, ev9, dv9⟩ := hlP
            have lv9 := dv9.length
            have kn : (getL (feD (envF p.ins (p.body.take (i + 1)))) p2.name).isSome = true := by
              rw [isSome_iff, names_feD, envF_snoc ep]; simp
            obtain ⟨vq, gq, dq⟩ := hd9.get (getL_feD kn)
            have eI : getI (envF p.ins (p.body.take (i + 1))) p2.name = formAt p.ins p.body i := by
              have nn : getL (feD (envF p.ins (p.body.take i))) p2.name = none := by
                have := known_iff (ins := p.ins) (b := p.body.take i) (x := p2.name)
                rw [okp.new] at this
                cases e2 : getL (feD (envF p.ins (p.body.take i))) p2.name with
                | none => rfl
                | some d => rw [e2] at this; cases this
              have h1 := getL_feD kn
              have h2 : getL (feD (envF p.ins (p.body.take (i + 1)))) p2.name = some (wd (stForm (envF p.ins (p.body.take i)) p2)) := by
                rw [← feD_snoc ep okp.new, putL_new nn, getL_append, nn, getL_cons, if_pos rfl]; rfl
              rw [h1] at h2
              have h3 := wd_inj (Option.some.inj h2)
              unfold formAt
              rw [ep]; exact h3
            rw [eI] at dq
            refine ⟨_, rfl, .inl ⟨rfl, _, SqL.of ev9⟩, _, rfl, _, rfl, d, vq, rfl, gq, l, vs9, _, rfl, rfl, ev9, szlt (by unfold formsL at lv9; simp at lv9; omega), ⟨_, _, _, _, _, _, _, _, _, _, rfl⟩, same_upd sP nl0, hd9.mono (ext_upd ev9 rfl) (upd_ne ne), _, upd_same, ?_⟩
            unfold formsL
            rw [List.range_succ, List.map_append]
            exact (denL_snoc dv9 dq).mono (ext_upd ev9 rfl)
      · rintro σ H4 ⟨⟨o3, o4, o5, o6, o7, o8, o9, o10, o11, o12, rfl⟩, s4, hd4, hl4⟩
        rw [lb] at hd4 hl4
        rw [List.take_length] at hd4
        refine ⟨_, rfl, _, rfl, szl (show 2 ≤ 1000000 by decide), fun t nt => ?_⟩
        exact q t d l _ (s4.trans (same_new nt)) (.inl (.inl upd_same)) (hd4.same (same_new nt)) (hl4.same (same_new nt))
end
end K28
end
section
set_option Elab.async false
set_option linter.all false
set_option maxRecDepth 100000
set_option maxHeartbeats 4000000
set_option exponentiation.threshold 2000
namespace K28
open PySem L2
section
variable {P : Program} {w : World} {K : PySem.W.Frag} {mg : Str → Option Value} {base : Heap}
theorem cat_den {H : Hp} {u v : V} {xs ys : List Dt} {Q : VK} (hu : Den K H (.t xs) u) (hv : Den K H (.t ys) v) (hz : xs.length + ys.length ≤ 1000000) (q : ∀ w H', Same H H' → Den K H' (.t (xs ++ ys)) w → Q w H') : kCat K u v H Q := by
  obtain ⟨a, us, rfl, aT, aL⟩ := hu
  obtain ⟨b, vs, rfl, bT, bL⟩ := hv
  have l1 := aL.length
  have l2 := bL.length
  refine use_cat aT bT (by omega) fun c H' s hc => q _ _ s ⟨c, _, rfl, hc, DenL.append (aL.mono (Same.ext s)) (bL.mono (Same.ext s))⟩
theorem sc_law_values : FnScope ["_law_program", "_law_shuts", "_law_it", "_law_form"] ["_law_program"] (defScope (top 112)) := ⟨rfl, rfl, rfl, by decide +kernel, rfl, by decide +kernel, by decide +kernel⟩
def sp_values (K : PySem.W.Frag) : Sp := fun vs H Q _ => ∃ (u : V) (p : Pg), vs = [u] ∧ PgAt K H p u ∧ PgOk p ∧ ∀ v H', Same H H' → Den K H' (rowsD (vwalls p)) v → Q v H'
theorem ok_law_values (T : Tx K mg) : FnOk P w K mg base CX0 2 719 (fdA K 719) ["_law_program"] (sp_values K) := by
  refine (f_law_values T).ok sc_law_values (fun vs H Q E h => ?_) (fun cdv A outer s H vs Q E hr h => ⟨_, PSs.nox (pss_cons (ps_set (i := 1) sc_law_values.nd rfl (.inl rfl) (pe_tup pa_nil))
  (pss_cons (ps_for PassesOwn.never rfl (k_zip K false true (by rfl) (free_zip T) (pa_cons (pe_ix (k_ixT K) (pv 0) pe_int (fun _ _ => rfl)) (pa_cons (pe_ix (k_ixT K) (pe_call (ok_law_forms T) (hr.mono (by decide)) (by rfl) (g__law_forms T) (f_law_forms T).kp (b_law_forms T) .nil pass0 (pa_cons (pv 0) pa_nil)) pe_int (fun _ _ => rfl)) pa_nil))) (k_tgt K 2 rfl (pgs_cons (pg_name (i := 2) sc_law_values.nd rfl (.inl rfl) (hf := (.inl rfl))) (pgs_cons (pg_name (i := 3) sc_law_values.nd rfl (.inl rfl) (hf := (.inl rfl))) pgs_nil)))
    (pss_one (ps_set (i := 1) sc_law_values.nd rfl (.inl rfl) (pe_op (k_cat K) (pv 1) (pe_call (ok_law_two T) (hr.mono (by decide)) (by rfl) (g__law_two T) (f_law_two T).kp (b_law_two T) .nil pass0 (pa_cons (pv 3) (pa_cons (pe_ix (k_ixT K) (pv 2) pe_int (fun _ _ => rfl)) pa_nil)))))))
  (pss_one (ps_ret (pv 1))))), ?_⟩)
  · obtain ⟨u, p, rfl, _⟩ := h; rfl
  · obtain ⟨u, p, rfl, hp, ok, q⟩ := h
    have i2 := ok.ins.in2
    have bl := ok.blen
    obtain ⟨a, x1, x2, x3, x4, rfl, hpp⟩ := id hp
    obtain ⟨ab, bs, rfl, bT, bL⟩ := id hpp.body
    have lb := bL.length
    rw [List.length_map] at lb
    refine ⟨szl (show 0 ≤ 1000000 by decide), fun t0 n0 => ?_⟩
    have s0 := same_new (o := .tup []) n0
    have d0 : Den K (upd H t0 (.tup [])) (rowsD ((List.range 0).flatMap (vKW p))) (.ref t0) := ⟨t0, [], rfl, .inl (.inl upd_same), rfl⟩
    generalize upd H t0 (.tup []) = H0 at s0 d0 ⊢
    refine ⟨_, rfl, a, _, _, _, rfl, rfl, Same.ext s0 _ _ hpp.tup, rfl, _, rfl, .ref a, p, rfl, hp.same s0, ok, fun t d l H1 s1 tT hd hl => ?_⟩
    have s01 := s0.trans s1
    obtain ⟨vs, ev, dv⟩ := hl
    have lv := dv.length
    unfold formsL at lv
    rw [List.length_map, List.length_range] at lv
    refine ⟨t, _, _, _, rfl, rfl, tT, rfl, ab, l, bs, vs, rfl, Same.ext s01 _ _ bT, SqL.of ev, ?_⟩
    refine for_it (n := p.body.length) (walk_zipB (k := false) (j := true) (K := K) (a := ab) (b := l) (xs := bs) (ys := vs) (by omega)) (fun i σ H' => (∃ (sv : V) (o2 o3 : Option V), σ = [some (.ref a), some sv, o2, o3] ∧ Den K H' (rowsD ((List.range i).flatMap (vKW p))) sv) ∧ Same H1 H')
      ⟨⟨_, _, _, rfl, d0.mono (Same.ext s1)⟩, Same.refl _⟩ (fun i σ H' _ h => ⟨Same.ext (s01.trans h.2) _ _ bT, Same.seq h.2 (SqL.of ev)⟩) ?_ ?_
    · rintro i x σ H3 H4 hi ⟨⟨sv, o2, o3, rfl, ds⟩, s3⟩ ⟨A', e, f, rfl, nA, rfl, ee, ef⟩
      have ee2 : bs[i]? = some e := ee
      have ef2 : vs[i]? = some f := ef
      have s4 := same_new (o := .tup [e, f]) nA
      have s34 := s3.trans s4
      obtain ⟨st, est, dst⟩ := map_at1 (DenL.mono (Same.ext (s01.trans s34)) bL) ee2
      obtain ⟨j, ej, df⟩ := map_at1 (DenL.mono (Same.ext s34) dv) ef2
      rw [List.getElem?_range hi] at ej
      obtain rfl := Option.some.inj ej
      have ds4 := ds.mono (Same.ext s4)
      have tA : SqT K (upd H3 A' (.tup [e, f])) A' [e, f] := .inl (.inl upd_same)
      generalize upd H3 A' (.tup [e, f]) = H4 at s4 s34 dst df ds4 tA ⊢
      obtain ⟨ap, y, m, rfl, pT, hy, hm⟩ := st_den dst
      refine g_pair tA ?_
      refine ⟨_, rfl, _, rfl, _, rfl, ap, _, _, _, rfl, rfl, pT, rfl, ?_⟩
      have ek : kdAt p.body i = st.kd := kdAt_eq est
      refine ⟨f, y, formAt p.ins p.body i, st.kd, rfl, df, hy, by rw [formAt_len ok hi]; omega, fun v5 H5 s5 d5 => ?_⟩
      refine cat_den (ds4.mono (Same.ext s5)) d5 (by rw [List.length_map, vw_len]; simp [kwalls]; omega) fun w6 H6 s6 d6 => ?_
      refine ⟨⟨w6, _, _, rfl, ?_⟩, s34.trans (s5.trans s6)⟩
      rw [List.range_succ, List.flatMap_append, List.flatMap_singleton]
      unfold rowsD
      rw [List.map_append]
      unfold vKW at d6 ⊢
      rw [ek]
      exact d6
    · rintro σ H3 ⟨⟨sv, o2, o3, rfl, ds⟩, s3⟩
      exact ⟨_, rfl, q _ _ (s01.trans s3) ds⟩
end
end K28
end
section
set_option Elab.async false
set_option linter.all false
set_option maxRecDepth 100000
set_option maxHeartbeats 4000000
set_option exponentiation.threshold 2000
namespace K28
open PySem L2
theorem getI_app {l r : FE} {x : Str} (h : x ∈ l.map (·.1)) : getI (l ++ r) x = getI l x := by
  unfold getI
  rw [List.find?_append]
  cases e : l.find? fun p => decide (p.1 = x) with
  | some p => rfl
  | none =>
    obtain ⟨p, hp, rfl⟩ := List.mem_map.mp h
    exact absurd (decide_eq_true rfl) (List.find?_eq_none.mp e p hp)
theorem getI_nth : ∀ {l : FE} {i : Nat} {q : Str × List Int}, (l.map (·.1)).Nodup → l[i]? = some q → getI l q.1 = q.2
  | [], _, _, _, h => by simp at h
  | p :: l, 0, q, _, h => by
    obtain rfl : p = q := Option.some.inj h
    unfold getI
    rw [List.find?_cons]
    simp
  | p :: l, i + 1, q, nd, h => by
    rw [List.map_cons, List.nodup_cons] at nd
    rw [List.getElem?_cons_succ] at h
    have ne : ¬ p.1 = q.1 := fun z => nd.1 (by rw [z]; exact List.mem_map.mpr ⟨q, List.mem_of_getElem? h, rfl⟩)
    have := getI_nth nd.2 h
    unfold getI at this ⊢
    rw [List.find?_cons]
    simp only [ne, decide_false]
    exact this
theorem envF_pre (ins : List (Str × Kd)) (b : List Stm) : ∃ r, envF ins b = ins0 ins ++ r := by
  unfold envF
  have : ∀ (b : List Stm) (l : FE), ∃ r, b.foldl (fun l s => l ++ [(s.name, stForm l s)]) l = l ++ r := by
    intro b
    induction b with
    | nil => intro l; exact ⟨[], by simp⟩
    | cons s b ih =>
      intro l
      obtain ⟨r, e⟩ := ih (l ++ [(s.name, stForm l s)])
      exact ⟨[(s.name, stForm l s)] ++ r, by rw [List.foldl_cons, e, List.append_assoc]⟩
  exact this b _
theorem getI_ins {ins : List (Str × Kd)} {b : List Stm} (nd : (ins.map (·.1)).Nodup) {i : Nat} {r : Str × Kd} (e : ins[i]? = some r) : getI (envF ins b) r.1 = unitF ins.length i := by
  obtain ⟨rest, er⟩ := envF_pre ins b
  have hi := (List.getElem?_eq_some_iff.mp e).1
  have e0 : (ins0 ins)[i]? = some (r.1, unitF ins.length i) := by
    unfold ins0
    rw [List.getElem?_map, List.getElem?_range hi]
    have : ins.getD i ("", ⟨true, 0⟩) = r := by rw [List.getD_eq_getElem?_getD, e]; rfl
    show some ((ins.getD i ("", ⟨true, 0⟩)).1, _) = _
    rw [this]
  rw [er, getI_app (by rw [names_ins0]; exact List.mem_map.mpr ⟨r, List.mem_of_getElem? e, rfl⟩)]
  exact getI_nth (by rw [names_ins0]; exact nd) e0
theorem getI_idx {ins : List (Str × Kd)} {b : List Stm} (nd : (ins.map (·.1)).Nodup) {x : Str} (h : x ∈ ins.map (·.1)) : getI (envF ins b) x = unitF ins.length (idxN ins x) := by
  obtain ⟨j, ej, e1, _⟩ := index_at h
  rw [List.getElem?_map] at e1
  cases e : ins[j]? with
  | none => rw [e] at e1; cases e1
  | some r =>
    rw [e] at e1
    have e2 : r.1 = x := Option.some.inj e1
    rw [← e2, getI_ins nd e]
    unfold idxN
    rw [e2, ej]
section
variable {P : Program} {w : World} {K : PySem.W.Frag} {mg : Str → Option Value} {base : Heap}
theorem sc_law_room : FnScope ["_law_program", "_law_shuts", "_law_forms_here", "_law_found", "_law_name", "_law_kind_here", "_law_small", "_law_large", "_law_it", "_law_form", "_law_x", "_law_y"] ["_law_program"] (defScope (top 105)) := ⟨rfl, rfl, rfl, by decide +kernel, rfl, by decide +kernel, by decide +kernel⟩
def sp_lroom (K : PySem.W.Frag) : Sp := fun vs H Q _ => ∃ (u : V) (p : Pg), vs = [u] ∧ PgAt K H p u ∧ PgOk p ∧ ∀ v H', Same H H' → Den K H' (rowsD (room p)) v → Q v H'
theorem ok_law_room (T : Tx K mg) : FnOk P w K mg base CX0 2 680 (fdA K 680) ["_law_program"] (sp_lroom K) := by
  refine (f_law_room T).ok sc_law_room (fun vs H Q E h => ?_) (fun cdv A outer s H vs Q E hr h => ⟨_, PSs.nox (pss_cons (ps_asg (pe_call (ok_law_forms T) (hr.mono (by decide)) (by rfl) (g__law_forms T) (f_law_forms T).kp (b_law_forms T) .nil pass0 (pa_cons (pv 0) pa_nil)) (k_tgt K 2 rfl (pgs_cons (pg_name (i := 2) sc_law_room.nd rfl (.inl rfl) (hf := (.inl rfl))) (pgs_cons (pg_name (i := 3) sc_law_room.nd rfl (.inl rfl) (hf := (.inl rfl))) pgs_nil))))
  (pss_cons (ps_set (i := 1) sc_law_room.nd rfl (.inl rfl) (pe_tup pa_nil))
  (pss_cons (ps_for PassesOwn.never rfl (k_pit K (pe_ix (k_ixT K) (pv 0) pe_int (fun _ _ => rfl))) (k_tgt K 2 rfl (pgs_cons (pg_name (i := 4) sc_law_room.nd rfl (.inl rfl) (hf := (.inl rfl))) (pgs_cons (pg_name (i := 5) sc_law_room.nd rfl (.inl rfl) (hf := (.inl rfl))) pgs_nil)))
    (pss_one (ps_set (i := 1) sc_law_room.nd rfl (.inl rfl) (pe_op (k_cat K) (pv 1) (pe_call (ok_law_two T) (hr.mono (by decide)) (by rfl) (g__law_two T) (f_law_two T).kp (b_law_two T) .nil pass0 (pa_cons (pe_dget (hu_of hr) (pv 2) (pv 4) (fun _ _ => rfl)) (pa_cons (pv 5) pa_nil)))))))
  (pss_cons (ps_for PassesOwn.never rfl (k_pit K (pe_ix (k_ixT K) (pv 0) pe_int (fun _ _ => rfl))) (k_tgt K 2 rfl (pgs_cons (pg_name (i := 6) sc_law_room.nd rfl (.inl rfl) (hf := (.inl rfl))) (pgs_cons (pg_name (i := 7) sc_law_room.nd rfl (.inl rfl) (hf := (.inl rfl))) pgs_nil)))
    (pss_one (ps_set (i := 1) sc_law_room.nd rfl (.inl rfl) (pe_op (k_cat K) (pv 1) (pe_tup (pa_cons (pe_op (k_cat K) (pe_callTy (k_tuple K) (by rfl) (free_tuple T) (by decide +kernel) (pa_cons (pe_lc (own := [("_law_x", 10), ("_law_y", 11)]) rfl sc_law_room.nd (k_zip K false false (by rfl) (free_zip T) (pa_cons (pe_dget (hu_of hr) (pv 2) (pv 6) (fun _ _ => rfl)) (pa_cons (pe_dget (hu_of hr) (pv 2) (pv 7) (fun _ _ => rfl)) pa_nil))) (blkOk_by (N := ["_law_program", "_law_shuts", "_law_forms_here", "_law_found", "_law_name", "_law_kind_here", "_law_small", "_law_large", "_law_it", "_law_form", "_law_x", "_law_y"]) (sc := (defScope (top 105))) (by decide +kernel)) (fun _ _ _ _ _ => (k_tgt K 2 rfl (pgs_cons (pg_name (i := 10) sc_law_room.nd rfl (.inl rfl) (hf := (.inr rfl))) (pgs_cons (pg_name (i := 11) sc_law_room.nd rfl (.inl rfl) (hf := (.inr rfl))) pgs_nil)))) (fun _ _ _ _ _ => pts_nil) (fun _ _ _ _ _ => (pe_op op_sub (pv 11) (pv 10)))) pa_nil)) (pe_tup (pa_cons pe_int pa_nil))) pa_nil))))))
  (pss_cons (ps_for PassesOwn.never rfl (k_zip K false true (by rfl) (free_zip T) (pa_cons (pe_ix (k_ixT K) (pv 0) pe_int (fun _ _ => rfl)) (pa_cons (pv 3) pa_nil))) (k_tgt K 2 rfl (pgs_cons (pg_name (i := 8) sc_law_room.nd rfl (.inl rfl) (hf := (.inl rfl))) (pgs_cons (pg_name (i := 9) sc_law_room.nd rfl (.inl rfl) (hf := (.inl rfl))) pgs_nil)))
    (pss_one (ps_set (i := 1) sc_law_room.nd rfl (.inl rfl) (pe_op (k_cat K) (pv 1) (pe_call (ok_law_two T) (hr.mono (by decide)) (by rfl) (g__law_two T) (f_law_two T).kp (b_law_two T) .nil pass0 (pa_cons (pv 9) (pa_cons (pe_ix (k_ixT K) (pv 8) pe_int (fun _ _ => rfl)) pa_nil)))))))
  (pss_one (ps_ret (pv 1)))))))), ?_⟩)
  · obtain ⟨u, p, rfl, _⟩ := h; rfl
  · obtain ⟨u, p, rfl, hp, ok, q⟩ := h
    have i2 := ok.ins.in2
    have bl := ok.blen
    have f1 := ok.facts.f1
    refine ⟨_, rfl, u, p, rfl, hp, ok, fun t d l H1 s1 tT hd hl => g_pair tT ⟨szl (show 0 ≤ 1000000 by decide), fun t0 n0 => ?_⟩⟩
    have s2 := same_new (o := .tup []) n0
    have d0 : Den K (upd H1 t0 (.tup [])) (rowsD ((List.range 0).flatMap (inKW p.ins))) (.ref t0) := ⟨t0, [], rfl, .inl (.inl upd_same), rfl⟩
    have hd2 := hd.same s2
    have hl2 := hl.same s2
    have s02 := s1.trans s2
    generalize upd H1 t0 (.tup []) = H2 at s2 d0 hd2 hl2 s02 ⊢
    obtain ⟨a, x1, x2, x3, x4, rfl, hpp⟩ := hp.same s02
    obtain ⟨ai, us, rfl, iT, iL⟩ := hpp.ins.den
    obtain ⟨af, fs, rfl, fT, fL⟩ := hpp.facts
    obtain ⟨ab, bs, rfl, bT, bL⟩ := hpp.body
    have ln := iL.length
    have lf := fL.length
    have lb := bL.length
    rw [List.length_map] at ln lf lb
    refine ⟨_, rfl, a, _, _, _, rfl, rfl, hpp.tup, rfl, ai, rfl, ⟨us, iT⟩, ?_⟩
    refine for_it (walk_tup (K := K) (a := ai) (xs := us)) (fun i σ H' => (∃ (sv : V) (o4 o5 o6 o7 o8 o9 o10 o11 : Option V), σ = [some (.ref a), some sv, some (.ref d), some (.ref l), o4, o5, o6, o7, o8, o9, o10, o11] ∧ Den K H' (rowsD ((List.range i).flatMap (inKW p.ins))) sv) ∧ Same H2 H')
      ⟨⟨_, _, _, _, _, _, _, _, _, rfl, d0⟩, Same.refl _⟩ (fun i σ H' _ h => Same.ext h.2 _ _ iT) ?_ ?_
    · rintro i x σ H3 H4 hi ⟨⟨sv, o4, o5, o6, o7, o8, o9, o10, o11, rfl, ds⟩, s3⟩ ⟨rfl, ex⟩
      obtain ⟨r, er, dr⟩ := map_at1 (DenL.mono (Same.ext s3) iL) ex
      obtain ⟨ar, y, rfl, rT, dy⟩ := in_den dr
      have hi2 := (List.getElem?_eq_some_iff.mp er).1
      refine g_pair rT ?_
      have kn : (getL (feD (envF p.ins p.body)) r.1).isSome = true := by
        rw [isSome_iff, names_feD, names_envF]
        exact List.mem_append_left _ (List.mem_map.mpr ⟨r, List.mem_of_getElem? er, rfl⟩)
      obtain ⟨vf, gf, df⟩ := (hd2.same s3).get (getL_feD kn)
      rw [getI_ins ok.ins.nd er] at df
      refine ⟨_, rfl, _, rfl, _, rfl, d, vf, rfl, gf, _, rfl, ?_⟩
      refine ⟨vf, y, _, r.2, rfl, df, dy, by rw [unitF_len]; omega, fun v5 H5 s5 d5 => ?_⟩
      refine cat_den (ds.mono (Same.ext s5)) d5 (by rw [List.length_map, List.length_flatMap]; unfold inKW; rw [kw_sum, List.length_range]; simp [kwalls]; omega) fun w6 H6 s6 d6 => ?_
      refine ⟨⟨w6, _, _, _, _, _, _, _, _, rfl, ?_⟩, s3.trans (s5.trans s6)⟩
      rw [List.range_succ, List.flatMap_append, List.flatMap_singleton]
      unfold rowsD
      rw [List.map_append]
      have e3 : inKW p.ins i = kwalls (unitF p.ins.length i) r.2 := by
        unfold inKW
        rw [List.getD_eq_getElem?_getD, er]; rfl
      rw [e3]
      exact d6
    · rintro σ H3 ⟨⟨sv, o4, o5, o6, o7, o8, o9, o10, o11, rfl, ds⟩, s3⟩
      rw [ln] at ds
      refine ⟨_, rfl, a, _, _, _, rfl, rfl, Same.ext s3 _ _ hpp.tup, rfl, af, rfl, ⟨fs, Same.ext s3 _ _ fT⟩, ?_⟩
      refine for_it (walk_tup (K := K) (a := af) (xs := fs)) (fun i σ H' => (∃ (sv : V) (o4 o5 o6 o7 o8 o9 o10 o11 : Option V), σ = [some (.ref a), some sv, some (.ref d), some (.ref l), o4, o5, o6, o7, o8, o9, o10, o11] ∧ Den K H' (rowsD ((List.range p.ins.length).flatMap (inKW p.ins) ++ (p.facts.take i).map (fwall p.ins))) sv) ∧ Same H2 H')
        ⟨⟨_, _, _, _, _, _, _, _, _, rfl, by rw [List.take_zero, List.map_nil, List.append_nil]; exact ds⟩, s3⟩ (fun i σ H' _ h => Same.ext h.2 _ _ fT) ?_ ?_
      · rintro i x σ H4 H5 hi ⟨⟨sv, o4, o5, o6, o7, o8, o9, o10, o11, rfl, ds⟩, s4⟩ ⟨rfl, ex⟩
        obtain ⟨r, er, dr⟩ := map_at1 (DenL.mono (Same.ext s4) fL) ex
        obtain ⟨c, rfl, cT⟩ := ft_den dr
        have fr := ok.facts.f2 r (List.mem_of_getElem? er)
        have hi2 := (List.getElem?_eq_some_iff.mp er).1
        refine g_pair cT ?_
        have kn : ∀ x, x ∈ p.ins.map (·.1) → (getL (feD (envF p.ins p.body)) x).isSome = true := fun x hx => by
          rw [isSome_iff, names_feD, names_envF]
          exact List.mem_append_left _ hx
        obtain ⟨v1, g1, d1⟩ := (hd2.same s4).get (getL_feD (kn _ fr.1))
        obtain ⟨v2, g2, d2⟩ := (hd2.same s4).get (getL_feD (kn _ fr.2.1))
        rw [getI_idx ok.ins.nd fr.1] at d1
        rw [getI_idx ok.ins.nd fr.2.1] at d2
        obtain ⟨a1, rfl, T1⟩ := d1.wd
        obtain ⟨a2, rfl, T2⟩ := d2.wd
        refine ⟨_, rfl, _, rfl, _, rfl, d, _, rfl, g1, _, rfl, _, rfl, d, _, rfl, g2, a1, a2, _, _, rfl, T1, T2, fun D nD => lc_zipI nD T1 T2 (fun x y => y - x) (by rw [unitF_len]; omega) (fun _ _ => by rfl) (fun x y Q' Hx hx hy sx q' => ⟨_, rfl, _, rfl, _, _, rfl, rfl, q'⟩) (fun HD sD eD => ?_)⟩
        refine ⟨D, _, rfl, .inl ⟨SqL.of eD, fun lt nlt => ⟨szl (show 1 ≤ 1000000 by decide), fun tz ntz => ?_⟩⟩⟩
        have eF : List.zipWith (fun x y => y - x) (unitF p.ins.length (idxN p.ins r.1)) (unitF p.ins.length (idxN p.ins r.2)) = sumF (unitF p.ins.length (idxN p.ins r.2)) (unitF p.ins.length (idxN p.ins r.1)) (-1) := by
          unfold sumF
          rw [List.zipWith_comm]
          congr 1
          funext x y
          omega
        refine cat_one (Same.ext (same_new ntz) _ _ (.inl (.inl upd_same))) (.inl (.inl upd_same)) (by simp [unitF_len]; omega) fun w5 H6 s6 d6 => ⟨szl (show 1 ≤ 1000000 by decide), fun tw ntw => ?_⟩
        rw [eF] at d6
        have sA := sD.trans ((same_new nlt).trans ((same_new ntz).trans (s6.trans (same_new (o := .tup [w5]) ntw))))
        have dW : Den K (upd H6 tw (.tup [w5])) (rowsD [fwall p.ins r]) (.ref tw) := den_new ntw (denL_one d6)
        refine cat_den (ds.mono (Same.ext sA)) dW (by rw [List.length_map, List.length_append, List.length_flatMap]; unfold inKW; rw [kw_sum, List.length_range]; simp; omega) fun w7 H7 s7 d7 => ?_
        refine ⟨⟨w7, _, _, _, _, _, _, _, _, rfl, ?_⟩, s4.trans (sA.trans s7)⟩
        rw [List.take_add_one, er, List.map_append, ← List.append_assoc]
        unfold rowsD
        rw [List.map_append]
        exact d7
      · rintro σ H4 ⟨⟨sv, o4, o5, o6, o7, o8, o9, o10, o11, rfl, ds⟩, s4⟩
        rw [lf, List.take_length] at ds
        obtain ⟨vs, ev, dv⟩ := hl2.same s4
        have lv := dv.length
        unfold formsL at lv
        rw [List.length_map, List.length_range] at lv
        have lin := inW_len (ins := p.ins) (facts := p.facts)
        refine ⟨_, rfl, a, _, _, _, rfl, rfl, Same.ext s4 _ _ hpp.tup, rfl, _, rfl, ab, l, bs, vs, rfl, Same.ext s4 _ _ bT, SqL.of ev, ?_⟩
        refine for_it (n := p.body.length) (walk_zipB (k := false) (j := true) (K := K) (a := ab) (b := l) (xs := bs) (ys := vs) (by omega)) (fun i σ H' => (∃ (sv : V) (o4 o5 o6 o7 o8 o9 o10 o11 : Option V), σ = [some (.ref a), some sv, some (.ref d), some (.ref l), o4, o5, o6, o7, o8, o9, o10, o11] ∧ Den K H' (rowsD (inWalls p.ins p.facts ++ (List.range i).flatMap (vKW p))) sv) ∧ Same H4 H')
          ⟨⟨_, _, _, _, _, _, _, _, _, rfl, by rw [show (List.range 0).flatMap (vKW p) = [] from rfl, List.append_nil]; exact ds⟩, Same.refl _⟩ (fun i σ H' _ h => ⟨Same.ext (s4.trans h.2) _ _ bT, Same.seq h.2 (SqL.of ev)⟩) ?_ ?_
        · rintro i x σ H5 H6 hi ⟨⟨sv, o4, o5, o6, o7, o8, o9, o10, o11, rfl, ds⟩, s5⟩ ⟨A', e, f, rfl, nA, rfl, ee, ef⟩
          have ee2 : bs[i]? = some e := ee
          have ef2 : vs[i]? = some f := ef
          have s6 := same_new (o := .tup [e, f]) nA
          have s56 := s5.trans s6
          obtain ⟨st, est, dst⟩ := map_at1 (DenL.mono (Same.ext (s4.trans s56)) bL) ee2
          obtain ⟨j, ej, df⟩ := map_at1 (DenL.mono (Same.ext s56) dv) ef2
          rw [List.getElem?_range hi] at ej
          obtain rfl := Option.some.inj ej
          have ds6 := ds.mono (Same.ext s6)
          have tA : SqT K (upd H5 A' (.tup [e, f])) A' [e, f] := .inl (.inl upd_same)
          generalize upd H5 A' (.tup [e, f]) = H6 at s6 s56 dst df ds6 tA ⊢
          obtain ⟨ap, y, m, rfl, pT, hy, hm⟩ := st_den dst
          refine g_pair tA ?_
          refine ⟨_, rfl, _, rfl, _, rfl, ap, _, _, _, rfl, rfl, pT, rfl, ?_⟩
          have ek : kdAt p.body i = st.kd := kdAt_eq est
          refine ⟨f, y, formAt p.ins p.body i, st.kd, rfl, df, hy, by rw [formAt_len ok hi]; omega, fun v7 H7 s7 d7 => ?_⟩
          refine cat_den (ds6.mono (Same.ext s7)) d7 (by rw [List.length_map, List.length_append, vw_len]; simp [kwalls]; omega) fun w8 H8 s8 d8 => ?_
          refine ⟨⟨w8, _, _, _, _, _, _, _, _, rfl, ?_⟩, s56.trans (s7.trans s8)⟩
          rw [List.range_succ, List.flatMap_append, List.flatMap_singleton, ← List.append_assoc]
          unfold rowsD
          rw [List.map_append]
          unfold vKW at d8 ⊢
          rw [ek]
          exact d8
        · rintro σ H5 ⟨⟨sv, o4, o5, o6, o7, o8, o9, o10, o11, rfl, ds⟩, s5⟩
          exact ⟨_, rfl, q _ _ (s02.trans (s4.trans s5)) ds⟩
end
end K28
end
section
set_option Elab.async false
set_option linter.all false
set_option maxRecDepth 100000
set_option maxHeartbeats 4000000
set_option exponentiation.threshold 2000
namespace K28
open PySem L2
section
variable {P : Program} {w : World} {K : PySem.W.Frag} {mg : Str → Option Value} {base : Heap}
theorem sc_law_is_small : FnScope ["_law_program", "_law_form"] ["_law_program"] (defScope (top 107)) := ⟨rfl, rfl, rfl, by decide +kernel, rfl, by decide +kernel, by decide +kernel⟩
def Small (p : Pg) : Prop := ∀ i, i < p.body.length → ∀ x ∈ formAt p.ins p.body i, x.natAbs ≤ 100000
def sp_small (K : PySem.W.Frag) : Sp := fun vs H Q _ => ∃ (u : V) (p : Pg), vs = [u] ∧ PgAt K H p u ∧ PgOk p ∧ ∀ b H', Same H H' → (b = true → Small p) → Q (.bl b) H'
theorem ok_law_is_small (T : Tx K mg) : FnOk P w K mg base CX0 2 690 (fdA K 690) ["_law_program"] (sp_small K) := by
  refine (f_law_is_small T).ok sc_law_is_small (fun vs H Q E h => ?_) (fun cdv A outer s H vs Q E hr h => ⟨_, PSs.nox (pss_one (ps_ret (pe_cmpR op_le (pe_callB (k_max K rfl) (by rfl) (free_max T) (by decide +kernel) (pa_cons (pe_op op_cat (pe_lst (pa_cons pe_int pa_nil)) (pe_lc (own := [("_law_form", 1)]) rfl sc_law_is_small.nd (k_pil K (pe_ix (k_ixT K) (pe_call (ok_law_forms T) (hr.mono (by decide)) (by rfl) (g__law_forms T) (f_law_forms T).kp (b_law_forms T) .nil pass0 (pa_cons (pv 0) pa_nil)) pe_int (fun _ _ => rfl))) (blkOk_by (N := ["_law_program", "_law_form"]) (sc := (defScope (top 107))) (by decide +kernel)) (fun _ _ _ _ _ => (pg_name (i := 1) sc_law_is_small.nd rfl (.inl rfl) (hf := (.inr rfl)))) (fun _ _ _ _ _ => pts_nil) (fun _ _ _ _ _ => (pe_callB (call_max2 rfl) (by rfl) (free_max T) (by decide +kernel) (pa_cons (pe_callB (k_maxT K rfl) (by rfl) (free_max T) (by decide +kernel) (pa_cons (pv 1) pa_nil)) (pa_cons (pe_un un_neg (pe_callB (k_minT K rfl) (by rfl) (free_min T) (by decide +kernel) (pa_cons (pv 1) pa_nil))) pa_nil)))))) pa_nil)) (pe_op op_pow pe_int pe_int) (nomark _)))), ?_⟩)
  · obtain ⟨u, p, rfl, _⟩ := h; rfl
  · obtain ⟨u, p, rfl, hp, ok, q⟩ := h
    have i1 := ok.ins.in1
    have bl := ok.blen
    refine ⟨szl (show 1 ≤ 1000000 by decide), fun z nz => ?_⟩
    have s0 := same_new (o := .lst [.int 0]) nz
    have ez : upd H z (.lst [.int 0]) z = some (.lst [.int 0]) := upd_same
    generalize upd H z (.lst [.int 0]) = H0 at s0 ez ⊢
    refine ⟨_, rfl, u, p, rfl, hp.same s0, ok, fun t d l H1 s1 tT hd hl => ?_⟩
    obtain ⟨vs, ev, dv⟩ := hl
    have lv := dv.length
    unfold formsL at lv
    rw [List.length_map, List.length_range] at lv
    refine ⟨t, _, _, _, rfl, rfl, tT, rfl, l, rfl, ⟨vs, SqL.of ev⟩, fun D nD => ?_⟩
    refine lc_it (walk_list (K := K) (a := l) (xs := vs)) (fun i H' => Same H1 H' ∧ ∃ ns : List Int, H' D = some (.lst (ns.map V.int)) ∧ ns.length = i ∧ ∀ j, j < i → ∀ x ∈ formAt p.ins p.body j, (x.natAbs : Int) ≤ ns.getD j 0) ⟨same_new nD, [], upd_same, rfl, fun j hj => absurd hj (Nat.not_lt_zero _)⟩ (fun i H' _ h => Same.seq h.1 (SqL.of ev)) ?_ ?_
    · rintro i x H2 H3 hi ⟨s2, ns, eD, ln, hn⟩ ⟨rfl, ex⟩
      obtain ⟨j, ej, df⟩ := map_at1 (DenL.mono (Same.ext s2) dv) ex
      have hi2 : i < p.body.length := by omega
      rw [List.getElem?_range hi2] at ej
      obtain rfl := Option.some.inj ej
      obtain ⟨a, rfl, aT⟩ := df.wd
      have lf := formAt_len ok hi2
      refine ⟨rfl, _, rfl, a, _, rfl, aT, by omega, fun m hm hmx => ⟨_, rfl, a, _, rfl, aT, by omega, fun m2 hm2 hmn => ⟨_, rfl, _, _, rfl, ?_⟩⟩⟩
      refine ⟨ns.map V.int, eD, szlt (by rw [List.length_map]; omega), same_upd s2 nD, ns ++ [_], by rw [upd_same, List.map_append]; rfl, by rw [List.length_append, ln]; rfl, fun j hj x hx => ?_⟩
      by_cases c : j < i
      · have e : (ns ++ [if -m2 > m then -m2 else m]).getD j 0 = ns.getD j 0 := by
          rw [List.getD_eq_getElem?_getD, List.getElem?_append_left (by omega), ← List.getD_eq_getElem?_getD]
        exact Int.le_trans (hn j c x hx) (Int.le_of_eq e.symm)
      · have cj : j = i := by omega
        subst cj
        have e : (ns ++ [if -m2 > m then -m2 else m]).getD j 0 = if -m2 > m then -m2 else m := by
          rw [List.getD_eq_getElem?_getD, List.getElem?_append_right (by omega), ln, Nat.sub_self]; rfl
        have h1 := hmx x hx
        have h2 := hmn x hx
        refine Int.le_trans ?_ (Int.le_of_eq e.symm)
        split <;> omega
    · rintro H2 ⟨s2, ns, eD, ln, hn⟩
      have ez2 := (s1.trans s2) _ _ ez
      refine ⟨z, D, _, _, rfl, rfl, ez2, eD, szl (by rw [List.length_map]; simp; omega), fun l2 nl2 => ?_⟩
      refine ⟨l2, 0 :: ns, rfl, SqL.of upd_same, (show 0 < ns.length + 1 by omega), fun m hm hmx => ?_⟩
      refine ⟨_, _, rfl, rfl, ⟨by decide, by decide, by decide⟩, _, _, rfl, rfl, q _ _ (s0.trans (s1.trans (s2.trans (same_new nl2)))) (fun hb i hi x hx => ?_)⟩
      have h1 : m ≤ 10 ^ 5 := of_decide_eq_true hb
      have h2 := hn i (by omega) x hx
      have h3 := hmx (ns.getD i 0) (List.mem_cons_of_mem _ (getD_in (by omega)))
      omega
end
end K28
end
section
set_option Elab.async false
set_option linter.all false
set_option maxRecDepth 100000
set_option maxHeartbeats 4000000
set_option exponentiation.threshold 2000
namespace K28
open PySem L2
/-- [1 for .. if t] -/
def onesL (n : Nat) (t : Nat → Bool) : List Int := ((List.range n).filter t).map fun _ => 1
theorem onesL_nil {n : Nat} {t : Nat → Bool} : onesL n t = [] ↔ ∀ i, i < n → t i = false := by
  unfold onesL
  rw [List.map_eq_nil_iff, List.filter_eq_nil_iff]
  constructor
  · intro h i hi
    have := h i (List.mem_range.mpr hi)
    simpa using this
  · intro h i hi
    rw [h i (List.mem_range.mp hi)]; decide
section
variable {P : Program} {w : World} {K : PySem.W.Frag} {mg : Str → Option Value} {base : Heap}
theorem use_eqC {H : Hp} {c e : Addr} {cs : List Int} {Q : VK} (hc : H c = some (.lst (cs.map V.int))) (he : H e = some (.lst [])) (q : Q (.bl (decide (cs = []))) H) : kEq K (.ref c) (.ref e) H Q := by
  unfold kEq
  obtain ⟨h1, h2⟩ := ints_canlay cs
  refine ⟨.list (cs.map .int), .list [], .lst (SqL.of hc) (ints_dp cs), .lst (SqL.of he) .nil, ?_, by decide, ?_⟩
  · unfold SeqAt.shaped
    simp [PyData.canLay0, PyData.depth, h1, h2]
  · cases cs with
    | nil => simpa [PyData.eqv, PyData.eqvAll] using q
    | cons x xs => simpa [PyData.eqv, PyData.eqvAll] using q
/-- a comprehension of ones with a test -/
theorem lc_ones {J : It} {n : Nat} {G : Hp → Prop} {Y : Nat → Hp → V → Hp → Prop} {σ : L2.St} {H1 : Hp} {g : TG} {tt : TT} {te : TE} {vs : List Nat}
    {D : Addr} (hD : H1 D = none) {Qd : Hp → Prop} (wk : Walk J n G Y) (t : Nat → Bool) (hz : n ≤ 100000) (hG : ∀ H', Same H1 H' → G H')
    (body : ∀ i x H' H2 (Qt : VK) (Qf : Hp → Prop), i < n → Same H1 H' → Y i H' x H2 → (t i = true → ∀ H4, Same H' H4 → Qt (.int 1) H4) → (t i = false → ∀ H4, Same H' H4 → Qf H4) →
      g x (wipe σ vs) H2 fun σ2 H3 => wipe σ2 vs = wipe σ vs ∧ tt σ2 H3 fun b H4 => if b = true then te σ2 H4 Qt else Qf H4)
    (post : ∀ H', Same H1 H' → H' D = some (.lst ((onesL n t).map V.int)) → Qd H') : LcGoal D J H1 σ vs g tt te Qd := by
  refine lc_filter (K := ([] : PySem.W.Frag)) hD wk t (fun _ => .i 1) hz hG ?_ ?_
  · intro i x H' H2 Qt Qf hi s y q1 q2
    exact body i x H' H2 Qt Qf hi s y (fun h H4 s4 => q1 h _ _ s4 rfl) q2
  · intro H' us s eD dL
    have e2 : ((List.range n).filter t).map (fun _ => Dt.i 1) = (onesL n t).map Dt.i := by unfold onesL; rw [List.map_map]; rfl
    rw [e2] at dL
    rw [dL.ints] at eD
    exact post H' s eD
theorem sc_law_are_integers : FnScope ["_law_thing", "_law_it"] ["_law_thing"] (defScope (top 110)) := ⟨rfl, rfl, rfl, by decide +kernel, rfl, by decide +kernel, by decide +kernel⟩
def sp_are_ints (K : PySem.W.Frag) : Sp := fun vs H Q _ => ∃ (v : V) (ws : List Int), vs = [v] ∧ Den K H (wd ws) v ∧ ws.length ≤ 1000 ∧ ∀ H', Same H H' → Q (.bl true) H'
theorem ok_law_are_integers (T : Tx K mg) : FnOk P w K mg base CX0 2 707 (fdA K 707) ["_law_thing"] (sp_are_ints K) := by
  refine (f_law_are_integers T).ok sc_law_are_integers (fun vs H Q E h => ?_) (fun cdv A outer s H vs Q E hr h => ⟨_, PSs.nox (pss_one (ps_ret (pe_and (pe_callB (k_isi K) (by rfl) (free_isinstance T) (by decide +kernel) (pa_cons (pv 0) (pa_cons (pe_bltn (v := .ty "tuple") (by rfl) (free_tuple T) (by decide +kernel) rfl) pa_nil))) (pe_one (pe_cmpR (k_eq K hr.units) (pe_lc (own := [("_law_it", 1)]) rfl sc_law_are_integers.nd (k_pit K (pv 0)) (blkOk_by (N := ["_law_thing", "_law_it"]) (sc := (defScope (top 110))) (by decide +kernel)) (fun _ _ _ _ _ => (pg_name (i := 1) sc_law_are_integers.nd rfl (.inl rfl) (hf := (.inr rfl)))) (fun _ _ _ _ _ => (pts_one (pt_not (pt_val (pe_call (ok_law_is_integer T) (hr.mono (by decide)) (by rfl) (g__law_is_integer T) (f_law_is_integer T).kp (b_law_is_integer T) .nil pass0 (pa_cons (pv 1) pa_nil)))))) (fun _ _ _ _ _ => pe_int)) (pe_lst pa_nil) (nomark _)))))), ?_⟩)
  · obtain ⟨v, ws, rfl, _⟩ := h; rfl
  · obtain ⟨v, ws, rfl, hv, hz, q⟩ := h
    obtain ⟨a, rfl, aT⟩ := hv.wd
    refine ⟨_, rfl, use_isi (ty_tup aT) (by decide +kernel) ⟨true, rfl, iteT ?_⟩⟩
    refine ⟨_, rfl, a, rfl, ⟨_, aT⟩, fun D nD => lc_ones nD (walk_tup (K := K) (a := a) (xs := ws.map V.int)) (fun _ => false) (by simp; omega) (fun Hh s => Same.ext s _ _ aT) ?_ ?_⟩
    · rintro i x H1 H2 Qt Qf hi s1 ⟨rfl, ex⟩ q1 q2
      obtain ⟨rfl, _⟩ := int_get ex
      exact ⟨rfl, _, rfl, _, rfl, true, rfl, iteF (q2 rfl _ (Same.refl _))⟩
    · intro H1 s1 eD
      refine ⟨szl (show 0 ≤ 1000000 by decide), fun e ne => ?_⟩
      have s2 := same_new (o := .lst []) ne
      refine use_eqC (s2 _ _ eD) upd_same ?_
      rw [decide_eq_true (onesL_nil.mpr fun _ _ => rfl)]
      exact q _ (s1.trans s2)
end
end K28
end
section
set_option Elab.async false
set_option linter.all false
set_option maxRecDepth 100000
set_option maxHeartbeats 4000000
set_option exponentiation.threshold 2000
namespace K28
open PySem L2
section
variable {P : Program} {w : World} {K : PySem.W.Frag} {mg : Str → Option Value} {base : Heap}
theorem ints_eqv : ∀ cs : List Int, PyData.eqvAll (cs.map PyData.int) (cs.map PyData.int) = true
  | [] => by simp [PyData.eqvAll]
  | c :: cs => by simp [PyData.eqvAll, PyData.eqv, ints_eqv cs]
theorem use_eqL {H : Hp} {c e : Addr} {n : Nat} {f : Nat → Int} {Q : VK} (hc : H c = some (.lst (FL n f))) (he : H e = some (.lst (FL n f))) (q : Q (.bl true) H) : kEq K (.ref c) (.ref e) H Q := by
  unfold kEq
  obtain ⟨h1, h2⟩ := ints_canlay (FI n f)
  have sh : SeqAt.shaped (.list ((FI n f).map .int)) = true := by
    unfold SeqAt.shaped
    simp [PyData.canLay0, PyData.depth, h1, h2]
  refine ⟨.list ((FI n f).map .int), .list ((FI n f).map .int), .lst (SqL.of hc) (ints_dp _), .lst (SqL.of he) (ints_dp _), sh, sh, ?_⟩
  rw [show PyData.eqv (.list ((FI n f).map .int)) (.list ((FI n f).map .int)) = true by simp [PyData.eqv, ints_eqv]]
  exact q
theorem sc_law_is_weights : FnScope ["_law_shuts", "_law_shut", "_law_paper", "_law_total", "_law_it", "_law_weight", "_law_x", "_law_y"] ["_law_shuts", "_law_shut", "_law_paper"] (defScope (top 111)) := ⟨rfl, rfl, rfl, by decide +kernel, rfl, by decide +kernel, by decide +kernel⟩
def sp_weights (K : PySem.W.Frag) : Sp := fun vs H Q _ => ∃ (u v y : V) (walls : List (List Int)) (wall ws : List Int) (m b : Int) (Bd : Nat), vs = [u, v, y] ∧ Den K H (rowsD walls) u ∧ Den K H (wd wall) v ∧ Den K H (papD m ws b) y ∧
  IsPap walls wall Bd m b ws ∧ Bd < 2 ^ 500 ∧ walls.length ≤ 500 ∧ 1 ≤ wall.length ∧ wall.length ≤ 100 ∧ (∀ r ∈ walls, r.length = wall.length) ∧ (∀ r ∈ walls, ∀ x ∈ r, x.natAbs < 2 ^ 500) ∧ (∀ x ∈ wall, x.natAbs < 2 ^ 500) ∧ ∀ H', Same H H' → Q (.bl true) H'
theorem ok_law_is_weights (T : Tx K mg) : FnOk P w K mg base CX0 3 712 (fdA K 712) ["_law_shuts", "_law_shut", "_law_paper"] (sp_weights K) := by
  refine (f_law_is_weights T).ok sc_law_is_weights (fun vs H Q E h => ?_) (fun cdv A outer s H vs Q E hr h => ⟨_, PSs.nox (pss_cons (ps_if (PW.pt (pw_or (pt_not (pt_val (pe_callB (k_isi K) (by rfl) (free_isinstance T) (by decide +kernel) (pa_cons (pv 2) (pa_cons (pe_bltn (v := .ty "tuple") (by rfl) (free_tuple T) (by decide +kernel) rfl) pa_nil))))) (pw_or (pt_cmpR op_ne (pe_callB (k_len K) (by rfl) (free_len T) (by decide +kernel) (pa_cons (pv 2) pa_nil)) pe_int (nomark _)) (pw_or1 (pt_not (pt_val (pe_call (ok_law_are_integers T) (hr.mono (by decide)) (by rfl) (g__law_are_integers T) (f_law_are_integers T).kp (b_law_are_integers T) .nil pass0 (pa_cons (pe_op (k_cat K) (pe_slice (k_slT K) (pv 2) po_none (po_some pe_int)) (pe_slice (k_slT K) (pv 2) (po_some pe_int) po_none)) pa_nil)))))))) (pss_one (ps_ret pe_bl)) pss_nil)
  (pss_cons (ps_if (PW.pt (pw_or (pt_not (pt_val (pe_call (ok_law_are_integers T) (hr.mono (by decide)) (by rfl) (g__law_are_integers T) (f_law_are_integers T).kp (b_law_are_integers T) .nil pass0 (pa_cons (pe_ix (k_ixT K) (pv 2) pe_int (fun _ _ => rfl)) pa_nil)))) (pw_or (pt_cmpR op_ne (pe_callB (k_len K) (by rfl) (free_len T) (by decide +kernel) (pa_cons (pe_ix (k_ixT K) (pv 2) pe_int (fun _ _ => rfl)) pa_nil)) (pe_callB (k_len K) (by rfl) (free_len T) (by decide +kernel) (pa_cons (pv 0) pa_nil)) (nomark _)) (pw_or1 (pt_not (pt_val (pe_call (ok_law_are_integers T) (hr.mono (by decide)) (by rfl) (g__law_are_integers T) (f_law_are_integers T).kp (b_law_are_integers T) .nil pass0 (pa_cons (pe_ix (k_ixT K) (pv 2) pe_int (fun _ _ => rfl)) pa_nil)))))))) (pss_one (ps_ret pe_bl)) pss_nil)
  (pss_cons (ps_if (PW.pt (pw_or (pt_cmpR (k_ne K hr.units) (pe_ix (k_ixT K) (pv 2) pe_int (fun _ _ => rfl)) (pe_tup pa_nil) (nomark _)) (pw_or (pt_cmpR op_lt (pe_callB (k_minT K rfl) (by rfl) (free_min T) (by decide +kernel) (pa_cons (pe_op (k_cat K) (pe_ix (k_ixT K) (pv 2) pe_int (fun _ _ => rfl)) (pe_tup (pa_cons (pe_ix (k_ixT K) (pv 2) pe_int (fun _ _ => rfl)) (pa_cons (pe_ix (k_ixT K) (pv 2) pe_int (fun _ _ => rfl)) pa_nil)))) pa_nil)) pe_int (nomark _)) (pw_or1 (pt_cmpR op_lt (pe_op op_add (pe_ix (k_ixT K) (pv 2) pe_int (fun _ _ => rfl)) (pe_ix (k_ixT K) (pv 2) pe_int (fun _ _ => rfl))) pe_int (nomark _)))))) (pss_one (ps_ret pe_bl)) pss_nil)
  (pss_cons (ps_set (i := 3) sc_law_is_weights.nd rfl (.inl rfl) (pe_op op_cat (pe_op op_rep (pe_lst (pa_cons pe_int pa_nil)) (pe_op op_sub (pe_callB (k_len K) (by rfl) (free_len T) (by decide +kernel) (pa_cons (pv 1) pa_nil)) pe_int)) (pe_lst (pa_cons (pe_ix (k_ixT K) (pv 2) pe_int (fun _ _ => rfl)) pa_nil))))
  (pss_cons (ps_for PassesOwn.never rfl (k_zip K false false (by rfl) (free_zip T) (pa_cons (pv 0) (pa_cons (pe_ix (k_ixT K) (pv 2) pe_int (fun _ _ => rfl)) pa_nil))) (k_tgt K 2 rfl (pgs_cons (pg_name (i := 4) sc_law_is_weights.nd rfl (.inl rfl) (hf := (.inl rfl))) (pgs_cons (pg_name (i := 5) sc_law_is_weights.nd rfl (.inr rfl) (hf := (.inl rfl))) pgs_nil)))
    (pss_one (ps_set (i := 3) sc_law_is_weights.nd rfl (.inl rfl) (pe_ifExp (pt_cmpR op_ne (pv 5) pe_int (nomark _)) (pe_lc (own := [("_law_x", 6), ("_law_y", 7)]) rfl sc_law_is_weights.nd (k_zip K true false (by rfl) (free_zip T) (pa_cons (pv 3) (pa_cons (pv 4) pa_nil))) (blkOk_by (N := ["_law_shuts", "_law_shut", "_law_paper", "_law_total", "_law_it", "_law_weight", "_law_x", "_law_y"]) (sc := (defScope (top 111))) (by decide +kernel)) (fun _ _ _ _ _ => (k_tgt K 2 rfl (pgs_cons (pg_name (i := 6) sc_law_is_weights.nd rfl (.inl rfl) (hf := (.inr rfl))) (pgs_cons (pg_name (i := 7) sc_law_is_weights.nd rfl (.inl rfl) (hf := (.inr rfl))) pgs_nil)))) (fun _ _ _ _ _ => pts_nil) (fun _ _ _ _ _ => (pe_op op_add (pv 6) (pe_op op_mulW (pv 5) (pv 7))))) (pv 3)))))
  (pss_one (ps_ret (pe_cmpR (k_eq K hr.units) (pv 3) (pe_lc (own := [("_law_x", 6)]) rfl sc_law_is_weights.nd (k_pit K (pv 1)) (blkOk_by (N := ["_law_shuts", "_law_shut", "_law_paper", "_law_total", "_law_it", "_law_weight", "_law_x", "_law_y"]) (sc := (defScope (top 111))) (by decide +kernel)) (fun _ _ _ _ _ => (pg_name (i := 6) sc_law_is_weights.nd rfl (.inl rfl) (hf := (.inr rfl)))) (fun _ _ _ _ _ => pts_nil) (fun _ _ _ _ _ => (pe_op op_mulW (pe_ix (k_ixT K) (pv 2) pe_int (fun _ _ => rfl)) (pv 6)))) (nomark _))))))))), ?_⟩)
  · obtain ⟨u, v, y, walls, wall, ws, m, b, Bd, rfl, _⟩ := h; rfl
  · obtain ⟨u, v, y, walls, wall, ws, m, b, Bd, rfl, hu, hz, hy, hP, hBd, hl, hn1, hn2, hw, wB, lB, q⟩ := h
    obtain ⟨au, us, rfl, uT, uL⟩ := hu
    obtain ⟨az, rfl, zT⟩ := hz.wd
    obtain ⟨ay, ys, rfl, yT, x1, r1, rfl, d1, x2, r2, rfl, d2, x3, r3, rfl, d3, x4, r4, rfl, d4, rfl⟩ := hy
    obtain rfl : x1 = .int m := d1
    obtain rfl : x4 = .int b := d4
    obtain ⟨aw, rfl, wT⟩ := d2.wd
    obtain ⟨a3, rfl, sT⟩ := d3.nil
    have lu := uL.length
    rw [List.length_map] at lu
    have lw := hP.len
    refine ⟨_, rfl, use_isi (ty_tup yT) (by decide +kernel) ⟨true, rfl, iteF ?_⟩⟩
    refine ⟨_, rfl, ay, _, rfl, .inr yT, rfl, _, rfl, lastB _ (fun l => absurd l (by simp)) (fun _ => ?_)⟩
    refine ⟨_, rfl, _, rfl, use_sl yT fun c1 H1 s1 hc1 => ?_⟩
    rw [show cutV [V.int m, .ref aw, .ref a3, .int b] none (some 1) = [V.int m] from cut_take (k := 1) (show 1 ≤ 4 by decide)] at hc1
    refine ⟨_, rfl, _, rfl, use_sl (Same.ext s1 _ _ yT) fun c2 H2 s2 hc2 => ?_⟩
    rw [show cutV [V.int m, .ref aw, .ref a3, .int b] (some 3) none = [V.int b] from cut_drop (k := 3) (show 3 ≤ 4 by decide)] at hc2
    refine use_cat (Same.ext s2 _ _ hc1) hc2 (by simp) fun c3 H3 s3 hc3 => ?_
    have s03 := s1.trans (s2.trans s3)
    refine ⟨.ref c3, [m, b], rfl, den_wd hc3, (show 2 ≤ 1000 by decide), fun H4 s4 => ⟨true, rfl, iteF ?_⟩⟩
    have s04 := s03.trans s4
    refine ⟨_, rfl, ay, _, _, _, rfl, rfl, Same.ext s04 _ _ yT, rfl, .ref aw, ws, rfl, d2.mono (Same.ext s04), by omega, fun H5 s5 => ⟨true, rfl, iteF ?_⟩⟩
    have s05 := s04.trans s5
    refine ⟨_, rfl, ay, _, _, _, rfl, rfl, Same.ext s05 _ _ yT, rfl, aw, _, rfl, .inr (Same.ext s05 _ _ wT), _, rfl, au, us, rfl, .inr (Same.ext s05 _ _ uT), rfl, false, ?_, iteF ?_⟩
    · rw [List.length_map, lw, lu, decide_eq_true rfl]; rfl
    refine ⟨_, rfl, ay, _, _, _, rfl, rfl, Same.ext s05 _ _ yT, rfl, .ref a3, [], rfl, d3.mono (Same.ext s05), (show 0 ≤ 1000 by decide), fun H6 s6 => ⟨true, rfl, iteF ?_⟩⟩
    have s06 := s05.trans s6
    have yT6 := Same.ext s06 _ _ yT
    refine ⟨_, rfl, ay, _, _, _, rfl, rfl, yT6, rfl, szl (show 0 ≤ 1000000 by decide), fun e0 ne0 => ?_⟩
    have s7 := same_new (o := .tup []) ne0
    refine use_neF (d := .t []) (e := .t []) ((d3.mono (Same.ext s06)).mono (Same.ext s7)) ⟨e0, [], rfl, .inl (.inl upd_same), rfl⟩ (fit_wd 59 []) (fit_wd 59 []) (fun _ => ⟨false, rfl, iteF ?_⟩) (fun z => absurd rfl z)
    have s07 := s06.trans s7
    have yT7 := Same.ext s07 _ _ yT
    refine ⟨_, rfl, ay, _, _, _, rfl, rfl, yT7, rfl, _, rfl, ay, _, _, _, rfl, rfl, yT7, rfl, _, rfl, ay, _, _, _, rfl, rfl, yT7, rfl, szl (show 2 ≤ 1000000 by decide), fun t1 nt1 => ?_⟩
    have s8 := same_new (o := .tup [.int m, .int b]) nt1
    refine use_cat (Same.ext (s07.trans s8) _ _ wT) (.inl (.inl upd_same)) (by simp; omega) fun c4 H8 s9 hc4 => ?_
    have hc4' : SqT K H8 c4 ((ws ++ [m, b]).map V.int) := by rw [List.map_append]; exact hc4
    have s08 := s07.trans (s8.trans s9)
    have yT8 := Same.ext s08 _ _ yT
    refine ⟨c4, ws ++ [m, b], rfl, hc4', by simp, fun mn hmn _ => ⟨_, _, rfl, rfl, _, rfl, lastB _ (fun l => ?_) (fun _ => ?_)⟩⟩
    · have h0 : 0 ≤ mn := by
        rcases List.mem_append.mp hmn with h | h
        · exact hP.w0 mn h
        · simp only [List.mem_cons, List.not_mem_nil, or_false] at h
          rcases h with h | h
          · rw [h]; exact hP.m0
          · rw [h]; exact hP.b0
      exact absurd (of_decide_eq_true l) (by omega)
    refine ⟨_, rfl, ay, _, _, _, rfl, rfl, yT8, rfl, _, rfl, ay, _, _, _, rfl, rfl, yT8, rfl, _, _, rfl, rfl, _, _, rfl, rfl, _, rfl, lastB _ (fun l => ?_) (fun _ => ?_)⟩
    · have := of_decide_eq_true l
      have := hP.mb
      omega
    -- total
    refine ⟨szl (show 1 ≤ 1000000 by decide), fun p1 np1 => ?_⟩
    have t1 := same_new (o := .lst [.int 0]) np1
    refine ⟨_, rfl, az, _, rfl, .inr (Same.ext (s08.trans t1) _ _ zT), _, _, rfl, rfl, p1, _, _, rfl, rfl, upd_same, by rw [List.length_map]; omega, by rw [List.length_map]; omega, szl (by simp; omega), fun p2 np2 => ?_⟩
    have t2 := same_new (o := .lst (List.replicate (((wall.map V.int).length : Int) - 1).toNat [V.int 0]).flatten) np2
    refine ⟨_, rfl, ay, _, _, _, rfl, rfl, Same.ext (s08.trans (t1.trans t2)) _ _ yT, rfl, szl (show 1 ≤ 1000000 by decide), fun p3 np3 => ?_⟩
    have t3 := same_new (o := .lst [.int b]) np3
    refine ⟨p2, p3, _, _, rfl, rfl, t3 _ _ upd_same, upd_same, szl (by simp; omega), fun p4 np4 => ?_⟩
    have eT : (List.replicate (((wall.map V.int).length : Int) - 1).toNat [V.int 0]).flatten ++ [V.int b] = FL wall.length (fun k => (if k + 1 = wall.length then b else 0) + comb (ws.take 0) (walls.take 0) k) := by
      rw [rep_one]
      apply List.ext_getElem?
      intro k
      rw [List.length_map]
      by_cases h : k < wall.length - 1
      · rw [List.getElem?_append_left (by simp; omega), List.getElem?_replicate, if_pos (by omega), fl_get (by omega), if_neg (by omega)]; rfl
      · by_cases e : k + 1 = wall.length
        · rw [List.getElem?_append_right (by simp; omega), fl_get (by omega), if_pos e]
          have : k - (List.replicate ((wall.length : Int) - 1).toNat (V.int 0)).length = 0 := by simp; omega
          rw [this]
          show some (V.int b) = some (V.int (b + 0))
          rw [Int.add_zero]
        · rw [List.getElem?_eq_none (by simp; omega), List.getElem?_eq_none (by rw [fl_len]; omega)]
    rw [eT]
    have t4 := same_new (o := .lst (FL wall.length (fun k => (if k + 1 = wall.length then b else 0) + comb (ws.take 0) (walls.take 0) k))) np4
    have sF := t1.trans (t2.trans (t3.trans t4))
    have s09 := s08.trans sF
    have uT9 := Same.ext s09 _ _ uT
    have wT9 := Same.ext s09 _ _ wT
    have zT9 := Same.ext s09 _ _ zT
    have yT9 := Same.ext s09 _ _ yT
    refine ⟨_, rfl, _, rfl, ay, _, _, _, rfl, rfl, yT9, rfl, au, aw, us, _, rfl, uT9, wT9, ?_⟩
    refine for_it (n := walls.length) (walk_zipB (k := false) (j := false) (K := K) (a := au) (b := aw) (xs := us) (ys := ws.map V.int) (by rw [List.length_map]; omega))
      (fun i σ H' => Same H H' ∧ ∃ Dd o4 o5 o6 o7, σ = [some (.ref au), some (.ref az), some (.ref ay), some (.ref Dd), o4, o5, o6, o7] ∧ H' Dd = some (.lst (FL wall.length (fun k => (if k + 1 = wall.length then b else 0) + comb (ws.take i) (walls.take i) k))))
      ⟨s09, p4, _, _, _, _, rfl, upd_same⟩ (fun i σ H' _ h => ⟨Same.ext h.1 _ _ uT, Same.ext h.1 _ _ wT⟩) ?_ ?_
    · rintro i x σ H9 H10 hi ⟨sA, Dd, o4, o5, o6, o7, rfl, eDd⟩ ⟨A', e, f, rfl, nA, rfl, ey, ez⟩
      have ey2 : us[i]? = some e := ey
      have ez2 : (ws.map V.int)[i]? = some f := ez
      obtain ⟨rfl, hi2⟩ := int_get ez2
      have sB := same_new (o := .tup [e, .int (ws.getD i 0)]) nA
      have sAB := sA.trans sB
      have eDd9 := sB _ _ eDd
      obtain ⟨_, df⟩ := rowsD_at (DenL.mono (Same.ext sAB) uL) ey2
      have tA : SqT K (upd H9 A' (.tup [e, .int (ws.getD i 0)])) A' [e, .int (ws.getD i 0)] := .inl (.inl upd_same)
      generalize upd H9 A' (.tup [e, .int (ws.getD i 0)]) = H10 at sB sAB eDd9 df tA ⊢
      obtain ⟨af, rfl, fT⟩ := df.wd
      refine g_pair tA ?_
      have hrl : (walls.getD i []).length = wall.length := hw _ (by rw [getD_of hi]; exact List.getElem_mem hi)
      have et : ∀ x, comb (ws.take (i + 1)) (walls.take (i + 1)) x = comb (ws.take i) (walls.take i) x + ws.getD i 0 * (walls.getD i []).getD x 0 := fun x => by
        unfold comb
        rw [List.take_add_one, List.take_add_one, List.getElem?_eq_getElem hi, List.getElem?_eq_getElem hi2, List.zipWith_append (by simp; omega), List.sum_append, getD_of hi, getD_of hi2]
        simp
      have bw : (ws.getD i 0).natAbs < 2 ^ 500 := by
        have := hP.wB (ws.getD i 0) (by rw [getD_of hi2]; exact List.getElem_mem hi2)
        omega
      refine ⟨_, rfl, rfl, _, rfl, lastB _ (fun l => ?_) (fun l => ?_)⟩
      · refine ⟨_, rfl, _, rfl, Dd, af, _, _, rfl, SqL.of eDd9, fT, fun D2 nD2 => lc_zipI nD2 (SqL.of eDd9) fT (fun x y => x + ws.getD i 0 * y) (by unfold FI; simp; omega) (fun _ _ => by rfl) (fun x y Q' H2 hx hy s2 q' => ?_) (fun H11 sC eD2 => ?_)⟩
        · exact ⟨_, rfl, _, rfl, _, rfl, _, _, rfl, rfl, mul500 bw (wB _ (by rw [getD_of hi]; exact List.getElem_mem hi) _ hy), _, _, rfl, rfl, q'⟩
        · refine ⟨sAB.trans sC, D2, _, _, _, _, rfl, ?_⟩
          rw [eD2, show walls.getD i [] = FI wall.length (fun x => (walls.getD i []).getD x 0) from ?_, fi_zip]
          · refine congrArg (fun z => some (HO.lst z)) (fl_congr fun x hx => ?_)
            rw [et]; omega
          · unfold FI
            have := map_at (walls.getD i []) 0 (fun x => x)
            rw [hrl, List.map_id'] at this
            exact this.symm
      · have w0 : ws.getD i 0 = 0 := by
          by_cases c : ws.getD i 0 = 0
          · exact c
          · have z : (!decide (V.int (ws.getD i 0) = V.int 0)) = true := by rw [decide_eq_false (fun z => c (V.int.inj z))]; rfl
            exact absurd (z.symm.trans l) (by decide)
        refine ⟨_, rfl, sAB, Dd, _, _, _, _, rfl, ?_⟩
        rw [eDd9]
        refine congrArg (fun z => some (HO.lst z)) (fl_congr fun x hx => ?_)
        rw [et, w0]; omega
    · rintro σ H9 ⟨sA, Dd, o4, o5, o6, o7, rfl, eDd⟩
      have zTA := Same.ext sA _ _ zT
      refine ⟨_, rfl, _, rfl, az, rfl, ⟨_, zTA⟩, fun D2 nD2 => lc_tupI nD2 zTA (fun x => m * x) (by omega) (fun _ => by rfl) (fun x Q' H2 hx s2 q' => ?_) (fun H11 sC eD2 => ?_)⟩
      · exact ⟨_, rfl, ay, _, _, _, rfl, rfl, Same.ext (sA.trans s2) _ _ yT, rfl, _, rfl, _, _, rfl, rfl, mul500 (by have := hP.mB; omega) (lB x hx), q'⟩
      · refine use_eqL (sC _ _ eDd) ?_ (q _ (sA.trans sC))
        rw [eD2]
        have lenm : (wall.map (fun x => m * x)).length = wall.length := by rw [List.length_map]
        rw [fl_of lenm]
        refine congrArg (fun z => some (HO.lst z)) (fl_congr fun x hx => ?_)
        have h1 := hP.eq x hx
        rw [List.take_of_length_le (by omega), List.take_of_length_le (by omega), getD_of (by rw [lenm]; exact hx), List.getElem_map]
        rw [getD_of hx] at h1
        omega
end
end K28
end
section
set_option Elab.async false
set_option linter.all false
set_option maxRecDepth 100000
set_option maxHeartbeats 4000000
set_option exponentiation.threshold 2000
namespace K28
open PySem L2
section
variable {P : Program} {w : World} {K : PySem.W.Frag} {mg : Str → Option Value} {base : Heap}
theorem sc_law_is_paper : FnScope ["_law_one", "_law_other", "_law_thing", "_law_point", "_law_room_here", "_law_values_here", "_law_shut", "_law_it"] ["_law_one", "_law_other", "_law_thing"] (defScope (top 113)) := ⟨rfl, rfl, rfl, by decide +kernel, rfl, by decide +kernel, by decide +kernel⟩
def sp_lpaper (K : PySem.W.Frag) : Sp := fun vs H Q _ => ∃ (u v z : V) (p r : Pg) (C : Nat) (tl : Tl), vs = [u, v, z] ∧ PgAt K H p u ∧ PgAt K H r v ∧ JIn p r C ∧ Den K H tl.d z ∧ Told p r (bd (p.ins.length + 1) C) tl ∧ ∀ H', Same H H' → Q (.bl true) H'
theorem ok_law_is_paper (T : Tx K mg) : FnOk P w K mg base CX0 4 724 (fdA K 724) ["_law_one", "_law_other", "_law_thing"] (sp_lpaper K) := by
  refine (f_law_is_paper T).ok sc_law_is_paper (fun vs H Q E h => ?_) (fun cdv A outer s H vs Q E hr h => ⟨_, PSs.nox (pss_cons (ps_if (PW.pt (pw_or (pt_not (pt_val (pe_callB (k_isi K) (by rfl) (free_isinstance T) (by decide +kernel) (pa_cons (pv 2) (pa_cons (pe_bltn (v := .ty "tuple") (by rfl) (free_tuple T) (by decide +kernel) rfl) pa_nil))))) (pw_or (pt_cmpR op_lt (pe_callB (k_len K) (by rfl) (free_len T) (by decide +kernel) (pa_cons (pv 2) pa_nil)) pe_int (nomark _)) (pw_or1 (pt_not (pt_val (pe_callB (k_isi K) (by rfl) (free_isinstance T) (by decide +kernel) (pa_cons (pe_ix (k_ixT K) (pv 2) pe_int (fun _ _ => rfl)) (pa_cons (pe_bltn (v := .ty "str") (by rfl) (free_str T) (by decide +kernel) rfl) pa_nil))))))))) (pss_one (ps_ret pe_bl)) pss_nil)
  (pss_cons (ps_asg (pe_tup (pa_cons (pe_call (ok_law_room T) (hr.mono (by decide)) (by rfl) (g__law_room T) (f_law_room T).kp (b_law_room T) .nil pass0 (pa_cons (pv 0) pa_nil)) (pa_cons (pe_call (ok_law_values T) (hr.mono (by decide)) (by rfl) (g__law_values T) (f_law_values T).kp (b_law_values T) .nil pass0 (pa_cons (pv 1) pa_nil)) pa_nil))) (k_tgt K 2 rfl (pgs_cons (pg_name (i := 4) sc_law_is_paper.nd rfl (.inr rfl) (hf := (.inl rfl))) (pgs_cons (pg_name (i := 5) sc_law_is_paper.nd rfl (.inl rfl) (hf := (.inl rfl))) pgs_nil))))
  (pss_cons (ps_if (pt_cmpR op_eq (pe_ix (k_ixT K) (pv 2) pe_int (fun _ _ => rfl)) pe_str (nomark _)) (pss_cons (ps_if (PW.pt (pw_or (pt_cmpR op_ne (pe_callB (k_len K) (by rfl) (free_len T) (by decide +kernel) (pa_cons (pv 2) pa_nil)) pe_int (nomark _)) (pw_or (pt_not (pt_val (pe_callB (k_isi K) (by rfl) (free_isinstance T) (by decide +kernel) (pa_cons (pe_ix (k_ixT K) (pv 2) pe_int (fun _ _ => rfl)) (pa_cons (pe_bltn (v := .ty "tuple") (by rfl) (free_tuple T) (by decide +kernel) rfl) pa_nil))))) (pw_or1 (pt_cmpR op_ne (pe_callB (k_len K) (by rfl) (free_len T) (by decide +kernel) (pa_cons (pe_ix (k_ixT K) (pv 2) pe_int (fun _ _ => rfl)) pa_nil)) (pe_callB (k_len K) (by rfl) (free_len T) (by decide +kernel) (pa_cons (pv 5) pa_nil)) (nomark _)))))) (pss_one (ps_ret pe_bl)) pss_nil)
  (pss_one (ps_ret (pe_cmpR (k_eq K hr.units) (pe_lc (own := [("_law_shut", 6), ("_law_it", 7)]) rfl sc_law_is_paper.nd (k_zip K false false (by rfl) (free_zip T) (pa_cons (pv 5) (pa_cons (pe_ix (k_ixT K) (pv 2) pe_int (fun _ _ => rfl)) pa_nil))) (blkOk_by (N := ["_law_one", "_law_other", "_law_thing", "_law_point", "_law_room_here", "_law_values_here", "_law_shut", "_law_it"]) (sc := (defScope (top 113))) (by decide +kernel)) (fun _ _ _ _ _ => (k_tgt K 2 rfl (pgs_cons (pg_name (i := 6) sc_law_is_paper.nd rfl (.inl rfl) (hf := (.inr rfl))) (pgs_cons (pg_name (i := 7) sc_law_is_paper.nd rfl (.inl rfl) (hf := (.inr rfl))) pgs_nil)))) (fun _ _ _ _ _ => (pts_one (pt_not (pt_val (pe_call (ok_law_is_weights T) (hr.mono (by decide)) (by rfl) (g__law_is_weights T) (f_law_is_weights T).kp (b_law_is_weights T) .nil pass0 (pa_cons (pv 4) (pa_cons (pv 6) (pa_cons (pv 7) pa_nil)))))))) (fun _ _ _ _ _ => pe_int)) (pe_lst pa_nil) (nomark _))))) pss_nil)
  (pss_cons (ps_if (PW.pt (pw_or (pt_cmpR op_ne (pe_ix (k_ixT K) (pv 2) pe_int (fun _ _ => rfl)) pe_str (nomark _)) (pw_or (pt_cmpR op_ne (pe_callB (k_len K) (by rfl) (free_len T) (by decide +kernel) (pa_cons (pv 2) pa_nil)) pe_int (nomark _)) (pw_or (pt_not (pt_val (pe_call (ok_law_is_integer T) (hr.mono (by decide)) (by rfl) (g__law_is_integer T) (f_law_is_integer T).kp (b_law_is_integer T) .nil pass0 (pa_cons (pe_ix (k_ixT K) (pv 2) pe_int (fun _ _ => rfl)) pa_nil)))) (pw_or1 (pt_cmpR op_lt (pe_ix (k_ixT K) (pv 2) pe_int (fun _ _ => rfl)) pe_int (nomark _))))))) (pss_one (ps_ret pe_bl)) pss_nil)
  (pss_cons (ps_if (PW.pt (pw_or (pt_not (pt_val (pe_call (ok_law_are_integers T) (hr.mono (by decide)) (by rfl) (g__law_are_integers T) (f_law_are_integers T).kp (b_law_are_integers T) .nil pass0 (pa_cons (pe_ix (k_ixT K) (pv 2) pe_int (fun _ _ => rfl)) pa_nil)))) (pw_or1 (pt_cmpR op_ne (pe_callB (k_len K) (by rfl) (free_len T) (by decide +kernel) (pa_cons (pe_ix (k_ixT K) (pv 2) pe_int (fun _ _ => rfl)) pa_nil)) (pe_callB (k_len K) (by rfl) (free_len T) (by decide +kernel) (pa_cons (pe_ix (k_ixT K) (pv 0) pe_int (fun _ _ => rfl)) pa_nil)) (nomark _))))) (pss_one (ps_ret pe_bl)) pss_nil)
  (pss_cons (ps_set (i := 3) sc_law_is_paper.nd rfl (.inr rfl) (pe_op (k_cat K) (pe_ix (k_ixT K) (pv 2) pe_int (fun _ _ => rfl)) (pe_tup (pa_cons (pe_ix (k_ixT K) (pv 2) pe_int (fun _ _ => rfl)) pa_nil))))
  (pss_cons (ps_if (pt_cmpR (k_ne K hr.units) (pe_lc (own := [("_law_shut", 6)]) rfl sc_law_is_paper.nd (k_pit K (pv 4)) (blkOk_by (N := ["_law_one", "_law_other", "_law_thing", "_law_point", "_law_room_here", "_law_values_here", "_law_shut", "_law_it"]) (sc := (defScope (top 113))) (by decide +kernel)) (fun _ _ _ _ _ => (pg_name (i := 6) sc_law_is_paper.nd rfl (.inl rfl) (hf := (.inr rfl)))) (fun _ _ _ _ _ => (pts_one (pt_cmpR op_lt (pe_call (ok_law_at T) (hr.mono (by decide)) (by rfl) (g__law_at T) (f_law_at T).kp (b_law_at T) .nil pass0 (pa_cons (pv 6) (pa_cons (pv 3) pa_nil))) pe_int (nomark _)))) (fun _ _ _ _ _ => pe_int)) (pe_lst pa_nil) (nomark _)) (pss_one (ps_ret pe_bl)) pss_nil)
  (pss_one (ps_ret (pe_cmpR (k_ne K hr.units) (pe_lc (own := [("_law_shut", 6)]) rfl sc_law_is_paper.nd (k_pit K (pv 5)) (blkOk_by (N := ["_law_one", "_law_other", "_law_thing", "_law_point", "_law_room_here", "_law_values_here", "_law_shut", "_law_it"]) (sc := (defScope (top 113))) (by decide +kernel)) (fun _ _ _ _ _ => (pg_name (i := 6) sc_law_is_paper.nd rfl (.inl rfl) (hf := (.inr rfl)))) (fun _ _ _ _ _ => (pts_one (pt_cmpR op_lt (pe_call (ok_law_at T) (hr.mono (by decide)) (by rfl) (g__law_at T) (f_law_at T).kp (b_law_at T) .nil pass0 (pa_cons (pv 6) (pa_cons (pv 3) pa_nil))) pe_int (nomark _)))) (fun _ _ _ _ _ => pe_int)) (pe_lst pa_nil) (nomark _))))))))))), ?_⟩)
  · obtain ⟨u, v, z, p, r, C, tl, rfl, _⟩ := h; rfl
  · obtain ⟨u, v, z, p, r, C, tl, rfl, hp, hr1, J, hz, hT, q⟩ := h
    have i2 := J.ok1.ins.in2
    have b1 := J.ok1.blen
    have b2 := J.ok2.blen
    have f1 := J.ok1.facts.f1
    have cB := J.big
    have lv : (vwalls r).length = 2 * r.body.length := vw_len r _
    have rl := room_len p
    cases tl with
    | w ps =>
      obtain ⟨lps, hps⟩ := hT
      obtain ⟨az, us, rfl, zT, z1, r1, rfl, e1, z2, r2, rfl, e2, rfl⟩ := id hz
      obtain rfl : z1 = .str "weights" := e1
      obtain ⟨ag, gs, rfl, gT, gL⟩ := e2
      have lg := gL.length
      rw [List.length_map] at lg
      refine ⟨_, rfl, use_isi (ty_tup zT) (by decide +kernel) ⟨true, rfl, iteF ?_⟩⟩
      refine ⟨_, rfl, az, _, rfl, .inr zT, _, _, rfl, rfl, _, rfl, lastB _ (fun l => absurd (of_decide_eq_true l) (show ¬ (2 : Int) < 2 by decide)) (fun _ => ?_)⟩
      refine ⟨_, rfl, az, _, _, _, rfl, rfl, zT, rfl, use_isi (.base (.str _)) (by decide +kernel) ⟨true, rfl, iteF ?_⟩⟩
      refine ⟨_, rfl, u, p, rfl, hp, J.ok1, fun x1 H1 s1 d1 => ⟨_, rfl, v, r, rfl, hr1.same s1, J.ok2, fun x2 H2 s2 d2 => ⟨szl (show 2 ≤ 1000000 by decide), fun tp ntp => ?_⟩⟩⟩
      have s3 := same_new (o := .tup [x1, x2]) ntp
      have s03 := s1.trans (s2.trans s3)
      have d1' := d1.mono (Same.ext (s2.trans s3))
      have d2' := d2.mono (Same.ext s3)
      have tpT : SqT K (upd H2 tp (.tup [x1, x2])) tp [x1, x2] := .inl (.inl upd_same)
      generalize upd H2 tp (.tup [x1, x2]) = H3 at s3 s03 d1' d2' tpT ⊢
      refine g_pair tpT ?_
      have zT3 := Same.ext s03 _ _ zT
      have gT3 := Same.ext s03 _ _ gT
      obtain ⟨av, ws, rfl, vT, vL⟩ := id d2'
      have lw := vL.length
      rw [List.length_map] at lw
      refine ⟨_, rfl, az, _, _, _, rfl, rfl, zT3, rfl, rfl, true, rfl, iteT ?_⟩
      refine ⟨_, rfl, az, _, rfl, .inr zT3, rfl, _, rfl, lastB _ (fun l => absurd l (by simp)) (fun _ => ?_)⟩
      refine ⟨_, rfl, az, _, _, _, rfl, rfl, zT3, rfl, use_isi (ty_tup gT3) (by decide +kernel) ⟨true, rfl, iteF ?_⟩⟩
      refine ⟨_, rfl, az, _, _, _, rfl, rfl, zT3, rfl, ag, gs, rfl, .inr gT3, _, rfl, av, ws, rfl, .inr vT, rfl, false, ?_, iteF ?_⟩
      · rw [lg, lw, lps, decide_eq_true rfl]; rfl
      refine ⟨_, rfl, _, rfl, az, _, _, _, rfl, rfl, zT3, rfl, av, ag, ws, gs, rfl, vT, gT3, fun D nD => ?_⟩
      refine lc_ones nD (walk_zipB (k := false) (j := false) (K := K) (a := av) (b := ag) (xs := ws) (ys := gs) rfl) (fun _ => false) (by omega) (fun Hh s => ⟨Same.ext s _ _ vT, Same.ext s _ _ gT3⟩) ?_ ?_
      · rintro i x H6 H7 Qt Qf hi s6 ⟨A', e, f, rfl, nA, rfl, ee, ef⟩ q1 q2
        have ee2 : ws[i]? = some e := ee
        have ef2 : gs[i]? = some f := ef
        have s7 := same_new (o := .tup [e, f]) nA
        have s67 := s6.trans s7
        obtain ⟨hi2, de⟩ := rowsD_at (DenL.mono (Same.ext s67) vL) ee2
        obtain ⟨qq, eq2, df⟩ := map_at1 (DenL.mono (Same.ext (s03.trans s67)) gL) ef2
        have hwm : (vwalls r).getD i [] ∈ vwalls r := by rw [getD_of hi2]; exact List.getElem_mem hi2
        have tA : SqT K (upd H6 A' (.tup [e, f])) A' [e, f] := .inl (.inl upd_same)
        generalize upd H6 A' (.tup [e, f]) = H7 at s7 s67 de df tA ⊢
        refine g_pair tA ⟨rfl, _, rfl, _, rfl, _, rfl, ?_⟩
        have lwl := (J.hB _ hwm).1
        refine ⟨x1, e, f, room p, (vwalls r).getD i [], qq.2.1, qq.1, qq.2.2, _, rfl, d1'.mono (Same.ext s67), de, df, hps i qq _ eq2 (by rw [List.getElem?_eq_getElem hi2, getD_of hi2]), J.hF, by omega, by omega, by omega, fun q3 hq => by rw [(J.hA q3 hq).1, lwl], fun q3 hq x hx => by have := (J.hA q3 hq).2 x hx; omega, fun x hx => by have := (J.hB _ hwm).2 x hx; omega, fun H9 s9 => ⟨true, rfl, iteF (q2 rfl _ (s7.trans s9))⟩⟩
      · intro H6 s6 eD
        refine ⟨szl (show 0 ≤ 1000000 by decide), fun e ne => ?_⟩
        have s7 := same_new (o := .lst []) ne
        refine use_eqC (s7 _ _ eD) upd_same ?_
        rw [decide_eq_true (onesL_nil.mpr fun _ _ => rfl)]
        exact q _ (s03.trans (s6.trans s7))
    | t b g =>
      obtain ⟨wl, hwl, hpt⟩ := hT
      obtain ⟨az, us, rfl, zT, z1, r1, rfl, e1, z2, r2, rfl, e2, z3, r3, rfl, e3, rfl⟩ := id hz
      obtain rfl : z1 = .str "trips" := e1
      obtain rfl : z2 = .int b := e2
      obtain ⟨ag, rfl, gT⟩ := e3.wd
      have lwl := (J.hB wl hwl).1
      have lpt := hpt.len
      rw [List.length_append, lwl] at lpt
      have lg : g.length = p.ins.length := by simp at lpt; omega
      have hb : 1 ≤ b := by
        have := hpt.last
        rw [lwl, Nat.add_sub_cancel, ← lg, List.getD_eq_getElem?_getD, List.getElem?_append_right (Nat.le_refl _), Nat.sub_self] at this
        exact this
      have hBig : Big (g ++ [b]) := fun x hx => lt500 (by have := hpt.pB x hx; have := J.hF; omega)
      refine ⟨_, rfl, use_isi (ty_tup zT) (by decide +kernel) ⟨true, rfl, iteF ?_⟩⟩
      refine ⟨_, rfl, az, _, rfl, .inr zT, _, _, rfl, rfl, _, rfl, lastB _ (fun l => absurd (of_decide_eq_true l) (show ¬ (3 : Int) < 2 by decide)) (fun _ => ?_)⟩
      refine ⟨_, rfl, az, _, _, _, rfl, rfl, zT, rfl, use_isi (.base (.str _)) (by decide +kernel) ⟨true, rfl, iteF ?_⟩⟩
      refine ⟨_, rfl, u, p, rfl, hp, J.ok1, fun x1 H1 s1 d1 => ⟨_, rfl, v, r, rfl, hr1.same s1, J.ok2, fun x2 H2 s2 d2 => ⟨szl (show 2 ≤ 1000000 by decide), fun tp ntp => ?_⟩⟩⟩
      have s3 := same_new (o := .tup [x1, x2]) ntp
      have s03 := s1.trans (s2.trans s3)
      have d1' := d1.mono (Same.ext (s2.trans s3))
      have d2' := d2.mono (Same.ext s3)
      have tpT : SqT K (upd H2 tp (.tup [x1, x2])) tp [x1, x2] := .inl (.inl upd_same)
      generalize upd H2 tp (.tup [x1, x2]) = H3 at s3 s03 d1' d2' tpT ⊢
      refine g_pair tpT ?_
      have zT3 := Same.ext s03 _ _ zT
      have gT3 := Same.ext s03 _ _ gT
      obtain ⟨a1, us1, rfl, T1, L1⟩ := id d1'
      obtain ⟨a2, us2, rfl, T2, L2⟩ := id d2'
      have ll1 := L1.length
      have ll2 := L2.length
      rw [List.length_map] at ll1 ll2
      refine ⟨_, rfl, az, _, _, _, rfl, rfl, zT3, rfl, rfl, false, rfl, iteF ?_⟩
      refine ⟨_, rfl, az, _, _, _, rfl, rfl, zT3, rfl, rfl, false, rfl, iteF ?_⟩
      refine ⟨_, rfl, az, _, rfl, .inr zT3, rfl, _, rfl, lastB _ (fun l => absurd l (by simp)) (fun _ => ?_)⟩
      refine ⟨_, rfl, az, _, _, _, rfl, rfl, zT3, rfl, b, rfl, true, rfl, iteF ?_⟩
      refine ⟨_, rfl, az, _, _, _, rfl, rfl, zT3, rfl, _, _, rfl, rfl, _, rfl, lastB _ (fun l => absurd (of_decide_eq_true l) (by omega)) (fun _ => ?_)⟩
      obtain ⟨ap, y1, y2, y3, y4, rfl, hpp⟩ := hp.same s03
      obtain ⟨ai, is, rfl, iT, iL⟩ := hpp.ins.den
      have lis := iL.length
      rw [List.length_map] at lis
      refine ⟨_, rfl, az, _, _, _, rfl, rfl, zT3, rfl, .ref ag, g, rfl, e3.mono (Same.ext s03), by omega, fun H4 s4 => ⟨true, rfl, iteF ?_⟩⟩
      have s04 := s03.trans s4
      refine ⟨_, rfl, az, _, _, _, rfl, rfl, Same.ext s04 _ _ zT, rfl, ag, _, rfl, .inr (Same.ext s04 _ _ gT), _, rfl, ap, _, _, _, rfl, rfl, Same.ext s4 _ _ hpp.tup, rfl, ai, is, rfl, .inr (Same.ext s4 _ _ iT), rfl, false, ?_, iteF ?_⟩
      · rw [List.length_map, lg, lis, decide_eq_true rfl]; rfl
      refine ⟨_, rfl, az, _, _, _, rfl, rfl, Same.ext s04 _ _ zT, rfl, _, rfl, az, _, _, _, rfl, rfl, Same.ext s04 _ _ zT, rfl, szl (show 1 ≤ 1000000 by decide), fun t1 nt1 => ?_⟩
      refine cat_one (Same.ext (s04.trans (same_new nt1)) _ _ gT) (.inl (.inl upd_same)) (by omega) fun pv H5 s5 dp => ?_
      have s35 := s4.trans ((same_new (o := .tup [.int b]) nt1).trans s5)
      have T15 := Same.ext s35 _ _ T1
      have L15 := DenL.mono (Same.ext s35) L1
      refine ⟨_, rfl, a1, rfl, ⟨_, T15⟩, fun D nD => lc_ones nD (walk_tup (K := K) (a := a1) (xs := us1)) (fun i => decide (dot ((room p).getD i []) (g ++ [b]) < 0)) (by omega) (fun Hh s => Same.ext s _ _ T15) ?_ ?_⟩
      · rintro i x H6 H7 Qt Qf hi s6 ⟨rfl, ex⟩ q1 q2
        obtain ⟨hi2, de⟩ := rowsD_at (DenL.mono (Same.ext s6) L15) ex
        have hwm : (room p).getD i [] ∈ room p := by rw [getD_of hi2]; exact List.getElem_mem hi2
        have hh := J.hA _ hwm
        refine ⟨rfl, _, rfl, _, rfl, x, pv, (room p).getD i [], g ++ [b], rfl, de, dp.mono (Same.ext s6), by omega, big_of hh.2 cB, hBig, fun H8 s8 => ⟨_, _, rfl, rfl, _, rfl, lastB _ (fun k => q1 k _ s8) (fun k => q2 k _ s8)⟩⟩
      · intro H6 s6 eD
        refine ⟨szl (show 0 ≤ 1000000 by decide), fun e ne => ?_⟩
        have s7 := same_new (o := .lst []) ne
        refine use_neC (s7 _ _ eD) upd_same ⟨false, ?_, iteF ?_⟩
        · have : onesL us1.length (fun i => decide (dot ((room p).getD i []) (g ++ [b]) < 0)) = [] := onesL_nil.mpr fun i hi => by
            have hwm : (room p).getD i [] ∈ room p := by rw [getD_of (by omega)]; exact List.getElem_mem (by omega)
            have := hpt.walls _ hwm
            exact decide_eq_false (by omega)
          rw [this]; rfl
        have s37 := s35.trans (s6.trans s7)
        have T25 := Same.ext s37 _ _ T2
        have L25 := DenL.mono (Same.ext s37) L2
        have dp7 := dp.mono (Same.ext (s6.trans s7))
        refine ⟨_, rfl, a2, rfl, ⟨_, T25⟩, fun D2 nD2 => lc_ones nD2 (walk_tup (K := K) (a := a2) (xs := us2)) (fun i => decide (dot ((vwalls r).getD i []) (g ++ [b]) < 0)) (by omega) (fun Hh s => Same.ext s _ _ T25) ?_ ?_⟩
        · rintro i x H8 H9 Qt Qf hi s8 ⟨rfl, ex⟩ q1 q2
          obtain ⟨hi2, de⟩ := rowsD_at (DenL.mono (Same.ext s8) L25) ex
          have hwm : (vwalls r).getD i [] ∈ vwalls r := by rw [getD_of hi2]; exact List.getElem_mem hi2
          have hh := J.hB _ hwm
          refine ⟨rfl, _, rfl, _, rfl, x, pv, (vwalls r).getD i [], g ++ [b], rfl, de, dp7.mono (Same.ext s8), by omega, big_of hh.2 cB, hBig, fun H10 s10 => ⟨_, _, rfl, rfl, _, rfl, lastB _ (fun k => q1 k _ s10) (fun k => q2 k _ s10)⟩⟩
        · intro H8 s8 eD2
          refine ⟨szl (show 0 ≤ 1000000 by decide), fun e2 ne2 => ?_⟩
          have s9 := same_new (o := .lst []) ne2
          refine use_neC (s9 _ _ eD2) upd_same ?_
          have : onesL us2.length (fun i => decide (dot ((vwalls r).getD i []) (g ++ [b]) < 0)) ≠ [] := fun z => by
            obtain ⟨i, hi, ei⟩ := List.mem_iff_getElem.mp hwl
            have := onesL_nil.mp z i (by omega)
            rw [getD_of hi, ei] at this
            exact of_decide_eq_false this hpt.wall
          rw [decide_eq_true this]
          exact q _ (s03.trans (s37.trans (s8.trans s9)))
end
end K28
end
section
set_option Elab.async false
set_option linter.all false
set_option maxRecDepth 100000
set_option maxHeartbeats 1000000
namespace K28
open PySem L2
/-! the plain law: walls and runs -/
theorem dot_cons {x y : Int} {xs ys : List Int} : dot (x :: xs) (y :: ys) = x * y + dot xs ys := by unfold dot; rw [List.zipWith_cons_cons, List.sum_cons]
theorem dot_snoc : ∀ {f g : List Int} {c b : Int}, f.length = g.length → dot (f ++ [c]) (g ++ [b]) = dot f g + c * b
  | [], [], c, b, _ => by unfold dot; simp
  | x :: f, y :: g, c, b, h => by
    rw [List.cons_append, List.cons_append, dot_cons, dot_cons, dot_snoc (by simpa using h)]; omega
  | [], _ :: _, _, _, h => by simp at h
  | _ :: _, [], _, _, h => by simp at h
theorem dot_times (m : Int) : ∀ (f g : List Int), dot (timesF m f) g = m * dot f g
  | [], _ => by unfold dot timesF; simp
  | _ :: _, [] => by unfold dot timesF; simp
  | x :: f, y :: g => by
    have := dot_times m f g
    unfold timesF at this ⊢
    rw [List.map_cons, dot_cons, dot_cons, this, Int.mul_add, Int.mul_assoc]
theorem fits_walls {f g : List Int} {k : Kd} {b : Int} (h : f.length = g.length) : fits k (dot f g) b = keeps (kwalls f k) (g ++ [b]) := by
  unfold fits keeps kwalls
  rw [List.all_cons, List.all_cons, List.all_nil, Bool.and_true]
  rw [dot_snoc (by unfold timesF; rw [List.length_map]; exact h), dot_snoc h, dot_times]
  rw [Bool.eq_iff_iff, Bool.and_eq_true, decide_eq_true_iff, decide_eq_true_iff, decide_eq_true_iff]
  cases k.both with
  | true =>
    simp only [if_true]
    rw [Int.neg_mul]
    constructor
    · rintro ⟨h1, h2⟩; constructor <;> omega
    · rintro ⟨h1, h2⟩; constructor <;> omega
  | false =>
    simp only [Bool.false_eq_true, if_false]
    rw [Int.zero_mul]
    constructor
    · rintro ⟨h1, h2⟩; constructor <;> omega
    · rintro ⟨h1, h2⟩; constructor <;> omega
theorem dot_sum (m : Int) : ∀ (xs ys g : List Int), xs.length = ys.length → dot (sumF xs ys m) g = dot xs g + m * dot ys g
  | [], [], _, _ => by unfold dot sumF; simp
  | x :: xs, y :: ys, [], _ => by unfold dot sumF; simp
  | x :: xs, y :: ys, z :: g, h => by
    have := dot_sum m xs ys g (by simpa using h)
    unfold sumF at this ⊢
    rw [List.zipWith_cons_cons, dot_cons, dot_cons, dot_cons, this, Int.add_mul, Int.mul_add, Int.mul_assoc]; omega
  | [], _ :: _, _, h => by simp at h
  | _ :: _, [], _, h => by simp at h
theorem getV_snoc {l : VE} {n x : Str} {v : Int} (h : ∀ p ∈ l, p.1 ≠ n) : getV (l ++ [(n, v)]) x = if x = n then v else getV l x := by
  unfold getV
  rw [List.find?_append]
  by_cases e : x = n
  · subst e
    rw [if_pos rfl]
    have : l.find? (fun p => decide (p.1 = x)) = none := by
      rw [List.find?_eq_none]
      exact fun p hp z => h p hp (of_decide_eq_true z)
    rw [this]; simp
  · rw [if_neg e]
    cases l.find? (fun p => decide (p.1 = x)) with
    | some p => rfl
    | none =>
      rw [List.find?_cons, decide_eq_false (fun z : n = x => e z.symm)]; rfl
theorem getI_snoc {l : FE} {n x : Str} {v : List Int} (h : ∀ p ∈ l, p.1 ≠ n) : getI (l ++ [(n, v)]) x = if x = n then v else getI l x := by
  unfold getI
  rw [List.find?_append]
  by_cases e : x = n
  · subst e
    rw [if_pos rfl]
    have : l.find? (fun p => decide (p.1 = x)) = none := by
      rw [List.find?_eq_none]
      exact fun p hp z => h p hp (of_decide_eq_true z)
    rw [this]; simp
  · rw [if_neg e]
    cases l.find? (fun p => decide (p.1 = x)) with
    | some p => rfl
    | none =>
      rw [List.find?_cons, decide_eq_false (fun z : n = x => e z.symm)]; rfl
end K28
end
section
set_option Elab.async false
set_option linter.all false
set_option maxRecDepth 100000
set_option maxHeartbeats 4000000
set_option exponentiation.threshold 2000
namespace K28
open PySem L2
/-! drawn single programs -/
def LETS : Str := "defghklmnopqrstu"
def letN (i : Nat) : Str := ⟨#[LETS.cps.toList.getD i 0]⟩
theorem letN_all : ((List.range 16).all fun i => okName (letN i) && !(NAMES.contains (letN i)) && ((List.range 16).all fun j => decide (i = j) || !(decide (letN i = letN j))) && !(decide (letN i = "more"))) = true := by decide +kernel
theorem letN_props {i : Nat} (hi : i < 16) : okName (letN i) = true ∧ ¬ letN i ∈ NAMES ∧ (∀ j, j < 16 → letN i = letN j → i = j) ∧ letN i ≠ "more" := by
  have h := List.all_eq_true.mp letN_all i (List.mem_range.mpr hi)
  rw [Bool.and_eq_true, Bool.and_eq_true, Bool.and_eq_true] at h
  obtain ⟨⟨⟨h1, h2⟩, h3⟩, h4⟩ := h
  refine ⟨h1, fun z => ?_, fun j hj e => ?_, fun z => ?_⟩
  · rw [List.contains_iff_mem.mpr z] at h2; cases h2
  · have := List.all_eq_true.mp h3 j (List.mem_range.mpr hj)
    rw [Bool.or_eq_true] at this
    rcases this with z | z
    · exact of_decide_eq_true z
    · rw [decide_eq_true e] at z; cases z
  · rw [decide_eq_true z] at h4; cases h4
theorem cut_tail {xs : List V} {k : Int} (hk : k < 0) (hx : 0 < xs.length) : 0 < (cutV xs (some k) none).length ∧ (cutV xs (some k) none).length ≤ xs.length ∧ ∀ (i : Nat) (x : V), (cutV xs (some k) none)[i]? = some x → x ∈ xs := by
  refine ⟨?_, cutV_length _ _ _, fun i x h => ?_⟩
  · unfold cutV
    have e : HT.sIx xs.length 0 (some k) = (k + (xs.length : Int)).toNat := by
      show (if k < 0 then (k + (xs.length : Int)).toNat else min k.toNat xs.length) = _
      rw [if_pos hk]
    rw [HT.sIx_none, e, List.length_take, List.length_drop]
    omega
  · unfold cutV at h
    exact List.mem_of_mem_drop (List.mem_of_mem_take (List.mem_of_getElem? h))
structure SgOk (p : Pg) (most insh : Nat) : Prop where
  ok : PgOk p
  il : p.ins.length ≤ insh
  bl : p.body.length ≤ most
  nm : ∀ q ∈ p.ins, q.1 ∈ NAMES
  lt : ∀ i s, p.body[i]? = some s → s.name = letN i
  fl : p.facts.length ≤ 2
def knownS (ins : List (Str × Kd)) (b : List Stm) : List Str := ins.map (·.1) ++ b.map (·.name)
theorem known_get {ins : List (Str × Kd)} {b : List Stm} {x : Str} : (getL (insL ins ++ stL b) x).isSome = true ↔ x ∈ knownS ins b := by
  rw [isSome_iff, names_stL]; exact Iff.rfl
theorem known_no {ins : List (Str × Kd)} {b : List Stm} {x : Str} (h : ¬ x ∈ knownS ins b) : getL (insL ins ++ stL b) x = none := by
  cases e : getL (insL ins ++ stL b) x with
  | none => rfl
  | some d => exact absurd (known_get.mp (by rw [e]; rfl)) h
theorem body_snoc {l : NL} {b : List Stm} {s : Stm} (h : BodyOk l b) (ok : StOk (l ++ stL b) s) : BodyOk l (b ++ [s]) := by
  intro i t e
  by_cases hi : i < b.length
  · rw [List.getElem?_append_left hi] at e
    rw [List.take_append_of_le_length (by omega)]
    exact h i t e
  · rw [List.getElem?_append_right (by omega)] at e
    have hz : i - b.length = 0 := by
      by_cases z : i - b.length = 0
      · exact z
      · have := (List.getElem?_eq_some_iff.mp e).1
        simp at this; omega
    have hi2 : i = b.length := by omega
    subst hi2
    rw [hz] at e
    cases Option.some.inj e
    rw [List.take_left' rfl]
    exact ok
section
variable {P : Program} {w : World} {K : PySem.W.Frag} {mg : Str → Option Value} {base : Heap}
theorem InsAt.fr {H H' : Hp} {d c : Addr} {ins : List (Str × Kd)} {v : V} (h : InsAt K H ins v) (hD : Deck H d c) (f : Fr d c H H') : InsAt K H' ins v := by
  obtain ⟨a, o, us, e1, e2, e3, e4⟩ := h
  obtain ⟨n1, n2⟩ := hD.ne_of e2 rfl
  exact ⟨a, o, us, e1, f.keep _ _ e2 n1 n2, e3, e4.mono (f.ext hD)⟩
theorem PgParts.fr {H H' : Hp} {d c : Addr} {p : Pg} {a : Addr} {x1 x2 x3 x4 : V} (h : PgParts K H p a x1 x2 x3 x4) (hD : Deck H d c) (f : Fr d c H H') : PgParts K H' p a x1 x2 x3 x4 :=
  ⟨f.ext hD _ _ h.tup, h.ins.fr hD f, h.facts.mono (f.ext hD), h.body.mono (f.ext hD), h.outs.mono (f.ext hD)⟩
theorem PgAt.fr {H H' : Hp} {d c : Addr} {p : Pg} {v : V} (h : PgAt K H p v) (hD : Deck H d c) (f : Fr d c H H') : PgAt K H' p v := by
  obtain ⟨a, x1, x2, x3, x4, e, h⟩ := h
  exact ⟨a, x1, x2, x3, x4, e, h.fr hD f⟩
theorem str_mem {ns : List Str} {x : V} (h : x ∈ ns.map V.str) : ∃ s, s ∈ ns ∧ x = .str s := by
  obtain ⟨s, h1, h2⟩ := List.mem_map.mp h
  exact ⟨s, h1, h2.symm⟩
theorem st_new {H : Hp} {p : Addr} {s : Stm} {kv m : V} (hp : H p = none) (hk : Den K H s.kd.d kv) (hm : Den K H s.mid m) : Den K (upd H p (.tup [.str s.op.str, .str s.name, kv, m, .str s.other])) s.d (.ref p) :=
  den_new hp (denL_cons rfl (denL_cons rfl (denL_cons hk (denL_cons hm (denL_cons rfl denL_nil)))))
theorem fr_none {H H1 : Hp} {d c p : Addr} (f : Fr d c H H1) (n : H1 p = none) : H p = none := by
  obtain ⟨n1, n2⟩ := deck_ne f.deck n
  cases e : H p with
  | none => rfl
  | some o => rw [f.keep _ _ e n1 n2] at n; cases n
theorem InsAt.upd {H : Hp} {ins : List (Str × Kd)} {v : V} {p : Addr} {u o : HO} (h : InsAt K H ins v) (e : H p = some u) (ht : isTupO u = false) : InsAt K (upd H p o) ins v := by
  obtain ⟨a, ob, us, e1, e2, e3, e4⟩ := h
  have ne : a ≠ p := fun z => by
    rw [z, e] at e2
    cases Option.some.inj e2
    cases ht
  exact ⟨a, ob, us, e1, by rw [upd_ne ne]; exact e2, e3, e4.mono (ext_upd e ht)⟩
def SgInv (K : PySem.W.Frag) (H : Hp) (d c D ai : Addr) (most insh : Nat) (x2 : V) (ins : List (Str × Kd)) (facts : List (Str × Str)) (i : Nat) (σ : L2.St) (H' : Hp) : Prop :=
  ∃ (o3 o9 o10 o11 o12 o13 o14 : Option V) (body : List Stm) (bv : V), σ = [some (.ref d), some (.int (most : Int)), some (.int (insh : Int)), o3, none, some (.ref ai), some x2, some (.ref D), some bv, o9, o10, o11, o12, o13, o14] ∧ Fr d c H H' ∧
    H' D = some (.lst ((knownS ins body).map V.str)) ∧ Den K H' (bodyD body) bv ∧ body.length = i ∧ BodyOk (insL ins) body ∧ (∀ j s, body[j]? = some s → s.name = letN j) ∧ InsAt K H' ins (.ref ai) ∧ Den K H' (.t (facts.map ftD)) x2
theorem sg_next {H H8 : Hp} {d c D ai : Addr} {most insh : Nat} {x2 w : V} {ins : List (Str × Kd)} {facts : List (Str × Str)} {i : Nat} {body : List Stm} {s : Stm} {o3 o9 o10 o11 o12 o13 o14 : Option V}
    (hD : Deck H d c) (hn : H D = none) (f : Fr d c H H8) (hk : H8 D = some (.lst ((knownS ins body).map V.str))) (hb : Den K H8 (bodyD (body ++ [s])) w) (hl : body.length = i) (hi : i < 16) (bok : BodyOk (insL ins) body)
    (blt : ∀ j s, body[j]? = some s → s.name = letN j) (sn : s.name = letN i) (kok : s.kd.ok = true) (right : okRight (insL ins ++ stL body) s) (hI : InsAt K H8 ins (.ref ai)) (hF : Den K H8 (.t (facts.map ftD)) x2) (nm : ∀ q ∈ ins, q.1 ∈ NAMES) :
    SgInv K H d c D ai most insh x2 ins facts (i + 1) [some (.ref d), some (.int (most : Int)), some (.int (insh : Int)), o3, none, some (.ref ai), some x2, some (.ref D), some w, o9, o10, o11, o12, o13, o14] (upd H8 D (.lst ((knownS ins body).map V.str ++ [.str s.name]))) := by
  obtain ⟨l1, l2, l3, l4⟩ := letN_props hi
  have new : ¬ s.name ∈ knownS ins body := by
    rw [sn]
    intro z
    rcases List.mem_append.mp z with z | z
    · obtain ⟨q, hq, e⟩ := List.mem_map.mp z
      exact l2 (by rw [← e]; exact nm q hq)
    · obtain ⟨t, ht, e⟩ := List.mem_map.mp z
      obtain ⟨j, hj⟩ := List.mem_iff_getElem?.mp ht
      have hj2 := (List.getElem?_eq_some_iff.mp hj).1
      have := l3 j (by omega) (by rw [← e]; exact blt j t hj)
      omega
  refine ⟨_, _, _, _, _, _, _, body ++ [s], w, rfl, fr_upd hD f hn, ?_, hb.mono (ext_upd hk rfl), by rw [List.length_append, hl]; rfl, body_snoc bok ⟨by rw [sn]; exact l1, kok, known_no new, right⟩, fun j t e => ?_, hI.upd hk rfl, hF.mono (ext_upd hk rfl)⟩
  · rw [upd_same]
    unfold knownS
    rw [List.map_append, List.map_append, List.map_append, List.map_append, List.append_assoc]
    rfl
  · by_cases hj : j < body.length
    · rw [List.getElem?_append_left hj] at e
      exact blt j t e
    · rw [List.getElem?_append_right (by omega)] at e
      have hz : j - body.length = 0 := by
        by_cases z : j - body.length = 0
        · exact z
        · have := (List.getElem?_eq_some_iff.mp e).1
          simp at this; omega
      rw [hz] at e
      cases Option.some.inj e
      rw [sn]
      congr 1; omega
theorem sc_law_single : FnScope ["_law_deck_here", "_law_most", "_law_inputs_here", "_law_go", "_law_outs", "_law_ins", "_law_facts", "_law_known", "_law_body", "_law_factor", "_law_name", "_law_word", "_law_one", "_law_other", "_law_kind_here"] ["_law_deck_here", "_law_most", "_law_inputs_here"] (defScope (top 100)) := ⟨rfl, rfl, rfl, by decide +kernel, rfl, by decide +kernel, by decide +kernel⟩
def sp_single (K : PySem.W.Frag) : Sp := fun vs H Q _ => ∃ (d c : Addr) (most insh : Nat), vs = [.ref d, .int (most : Int), .int (insh : Int)] ∧ Deck H d c ∧ most ≤ 6 ∧ 1 ≤ insh ∧ insh ≤ 6 ∧ ∀ v p H', Fr d c H H' → PgAt K H' p v → SgOk p most insh → Q v H'
theorem ok_law_single (T : Tx K mg) : FnOk P w K mg base CX0 5 653 (fdA K 653) ["_law_deck_here", "_law_most", "_law_inputs_here"] (sp_single K) := by
  refine (f_law_single T).ok sc_law_single (fun vs H Q E h => ?_) (fun cdv A outer s H vs Q E hr h => ⟨_, PSs.nox (pss_cons (ps_asg (pe_call (ok_law_inputs T) (hr.mono (by decide)) (by rfl) (g__law_inputs T) (f_law_inputs T).kp (b_law_inputs T) .nil pass0 (pa_cons (pv 0) (pa_cons (pv 2) pa_nil))) (k_tgt K 2 rfl (pgs_cons (pg_name (i := 5) sc_law_single.nd rfl (.inl rfl) (hf := (.inl rfl))) (pgs_cons (pg_name (i := 6) sc_law_single.nd rfl (.inl rfl) (hf := (.inl rfl))) pgs_nil))))
  (pss_cons (ps_asg (pe_tup (pa_cons (pe_lc (own := [("_law_name", 10), ("_law_kind_here", 14)]) rfl sc_law_single.nd (k_pit K (pv 5)) (blkOk_by (N := ["_law_deck_here", "_law_most", "_law_inputs_here", "_law_go", "_law_outs", "_law_ins", "_law_facts", "_law_known", "_law_body", "_law_factor", "_law_name", "_law_word", "_law_one", "_law_other", "_law_kind_here"]) (sc := (defScope (top 100))) (by decide +kernel)) (fun _ _ _ _ _ => (k_tgt K 2 rfl (pgs_cons (pg_name (i := 10) sc_law_single.nd rfl (.inl rfl) (hf := (.inr rfl))) (pgs_cons (pg_name (i := 14) sc_law_single.nd rfl (.inl rfl) (hf := (.inr rfl))) pgs_nil)))) (fun _ _ _ _ _ => pts_nil) (fun _ _ _ _ _ => (pv 10))) (pa_cons (pe_tup pa_nil) pa_nil))) (k_tgt K 2 rfl (pgs_cons (pg_name (i := 7) sc_law_single.nd rfl (.inr rfl) (hf := (.inl rfl))) (pgs_cons (pg_name (i := 8) sc_law_single.nd rfl (.inl rfl) (hf := (.inl rfl))) pgs_nil))))
  (pss_cons (ps_for PassesOwn.never rfl (pi_range1 (by rfl) (free_range T) (pa_cons (pe_callB (call_min2 rfl) (by rfl) (free_min T) (by decide +kernel) (pa_cons (pv 1) (pa_cons (pe_call (ok_law_pick T) (hr.mono (by decide)) (by rfl) (g__law_pick T) (f_law_pick T).kp (b_law_pick T) .nil pass0 (pa_cons (pv 0) (pa_cons (pe_lst (pa_cons pe_int (pa_cons pe_int (pa_cons pe_int (pa_cons pe_int (pa_cons pe_int (pa_cons pe_int (pa_cons pe_int (pa_cons pe_int (pa_cons pe_int (pa_cons pe_int pa_nil))))))))))) pa_nil))) pa_nil))) pa_nil)) (pg_name (i := 3) sc_law_single.nd rfl (.inl rfl) (hf := (.inl rfl)))
    (pss_cons (ps_par (i := 10) (j := 11) rfl sc_law_single.nd rfl rfl (by decide) rfl rfl (pa_cons (pe_ix ix_str pe_str (pv 3) (fun _ _ => rfl)) (pa_cons (pe_call (ok_law_pick T) (hr.mono (by decide)) (by rfl) (g__law_pick T) (f_law_pick T).kp (b_law_pick T) .nil pass0 (pa_cons (pv 0) (pa_cons (pe_lst (pa_cons pe_str (pa_cons pe_str (pa_cons pe_str (pa_cons pe_str (pa_cons pe_str pa_nil)))))) pa_nil))) pa_nil)) (by rfl))
  (pss_cons (ps_par (i := 12) (j := 13) rfl sc_law_single.nd rfl rfl (by decide) rfl rfl (pa_cons (pe_call (ok_law_pick T) (hr.mono (by decide)) (by rfl) (g__law_pick T) (f_law_pick T).kp (b_law_pick T) .nil pass0 (pa_cons (pv 0) (pa_cons (pe_slice (k_slL K) (pv 7) (po_some (pe_un un_neg pe_int)) po_none) pa_nil))) (pa_cons (pe_call (ok_law_pick T) (hr.mono (by decide)) (by rfl) (g__law_pick T) (f_law_pick T).kp (b_law_pick T) .nil pass0 (pa_cons (pv 0) (pa_cons (pv 7) pa_nil))) pa_nil)) (by rfl))
  (pss_cons (ps_set (i := 9) sc_law_single.nd rfl (.inl rfl) (pe_call (ok_law_pick T) (hr.mono (by decide)) (by rfl) (g__law_pick T) (f_law_pick T).kp (b_law_pick T) .nil pass0 (pa_cons (pv 0) (pa_cons (pe_lst (pa_cons (pe_un un_neg pe_int) (pa_cons pe_int (pa_cons pe_int (pa_cons (pe_un un_neg pe_int) (pa_cons pe_int (pa_cons pe_int (pa_cons pe_int pa_nil)))))))) pa_nil))))
  (pss_cons (ps_if (pt_cmpR op_eq (pv 11) pe_str (nomark _)) (pss_one (ps_set (i := 8) sc_law_single.nd rfl (.inl rfl) (pe_op (k_cat K) (pv 8) (pe_tup (pa_cons (pe_tup (pa_cons (pv 11) (pa_cons (pv 10) (pa_cons (pe_call (ok_law_kind T) (hr.mono (by decide)) (by rfl) (g__law_kind T) (f_law_kind T).kp (b_law_kind T) .nil pass0 (pa_cons (pv 0) pa_nil)) (pa_cons (pv 9) (pa_cons (pv 12) pa_nil)))))) pa_nil))))) (pss_one (ps_set (i := 8) sc_law_single.nd rfl (.inl rfl) (pe_op (k_cat K) (pv 8) (pe_tup (pa_cons (pe_tup (pa_cons (pv 11) (pa_cons (pv 10) (pa_cons (pe_call (ok_law_kind T) (hr.mono (by decide)) (by rfl) (g__law_kind T) (f_law_kind T).kp (b_law_kind T) .nil pass0 (pa_cons (pv 0) pa_nil)) (pa_cons (pv 12) (pa_cons (pv 13) pa_nil)))))) pa_nil))))))
  (pss_one (ps_expr (pe_bm PySem.F.plainAttrs_list PySem.F.slot_list_append PySem.F.type_list_append mt_append (pv 7) (pa_cons (pv 10) pa_nil)))))))))
  (pss_cons (ps_set (i := 4) sc_law_single.nd rfl (.inl rfl) (pe_callTy (k_tuple K) (by rfl) (free_tuple T) (by decide +kernel) (pa_cons (pe_lc (own := [("_law_go", 3)]) rfl sc_law_single.nd (pi_range1 (by rfl) (free_range T) (pa_cons (pe_call (ok_law_pick T) (hr.mono (by decide)) (by rfl) (g__law_pick T) (f_law_pick T).kp (b_law_pick T) .nil pass0 (pa_cons (pv 0) (pa_cons (pe_lst (pa_cons pe_int (pa_cons pe_int (pa_cons pe_int (pa_cons pe_int (pa_cons pe_int pa_nil)))))) pa_nil))) pa_nil)) (blkOk_by (N := ["_law_deck_here", "_law_most", "_law_inputs_here", "_law_go", "_law_outs", "_law_ins", "_law_facts", "_law_known", "_law_body", "_law_factor", "_law_name", "_law_word", "_law_one", "_law_other", "_law_kind_here"]) (sc := (defScope (top 100))) (by decide +kernel)) (fun _ _ _ _ _ => (pg_name (i := 3) sc_law_single.nd rfl (.inl rfl) (hf := (.inr rfl)))) (fun _ _ _ _ _ => pts_nil) (fun _ _ _ _ _ => (pe_call (ok_law_pick T) (hr.mono (by decide)) (by rfl) (g__law_pick T) (f_law_pick T).kp (b_law_pick T) .nil pass0 (pa_cons (pv 0) (pa_cons (pe_slice (k_slL K) (pv 7) (po_some (pe_un un_neg pe_int)) po_none) pa_nil))))) pa_nil)))
  (pss_one (ps_ret (pe_tup (pa_cons (pv 5) (pa_cons (pv 6) (pa_cons (pv 8) (pa_cons (pv 4) pa_nil))))))))))), ?_⟩)
  · obtain ⟨d, c, most, insh, rfl, _⟩ := h; rfl
  · obtain ⟨d, c, most, insh, rfl, hD, m6, i1, i6, q⟩ := h
    refine ⟨_, rfl, _, rfl, d, c, insh, rfl, hD, i1, i6, fun t x1 x2 ins facts H1 f1 hT hI hF iok fok il nm fl => ?_⟩
    refine g_pair hT ?_
    obtain ⟨ai, us, rfl, iT, iL⟩ := hI.den
    have ln := iL.length
    rw [List.length_map] at ln
    have hn6 := iok.in2
    have hn1 := iok.in1
    refine ⟨_, rfl, ai, rfl, ⟨us, iT⟩, fun D nD => lc_map (K := K) nD (n := ins.length) (G := fun Hh => SqT K Hh ai us) (Y := YAt us) (by rw [← ln]; exact walk_tup) (fun i => .s (ins.getD i ("", ⟨true, 0⟩)).1) (by omega) (fun Hh s => Same.ext s _ _ iT) ?_ ?_⟩
    · rintro i x H2 H3 Q' hi s1 ⟨rfl, ex⟩ q'
      obtain ⟨r, er, dr⟩ := map_at1 (DenL.mono (Same.ext s1) iL) ex
      obtain ⟨b, y, rfl, bT, dy⟩ := in_den dr
      refine g_pair bT ⟨rfl, _, rfl, q' _ _ (Same.refl _) ?_⟩
      show V.str _ = V.str _
      rw [List.getD_eq_getElem?_getD, er]; rfl
    · intro H2 ys s2 eD dL
      have en : (List.range ins.length).map (fun i => Dt.s (ins.getD i ("", ⟨true, 0⟩)).1) = (ins.map (·.1)).map Dt.s := by
        rw [map_at ins ("", ⟨true, 0⟩) (fun r => Dt.s r.1), List.map_map]; rfl
      rw [en] at dL
      rw [dL.strs] at eD
      refine ⟨szl (show 0 ≤ 1000000 by decide), fun tb nb => ⟨szl (show 2 ≤ 1000000 by decide), fun tp np => ?_⟩⟩
      refine g_pair (.inl (.inl upd_same)) ?_
      have s3 : Same H1 _ := s2.trans ((same_new (o := .tup []) nb).trans (same_new (o := .tup [.ref D, .ref tb]) np))
      have dB : Den K (upd (upd H2 tb (.tup [])) tp (.tup [.ref D, .ref tb])) (bodyD []) (.ref tb) := (den_new (l := []) nb denL_nil).mono (Same.ext (same_new np))
      have eD3 : upd (upd H2 tb (.tup [])) tp (.tup [.ref D, .ref tb]) D = some (.lst ((ins.map (·.1)).map V.str)) := ((same_new nb).trans (same_new np)) _ _ eD
      generalize upd (upd H2 tb (.tup [])) tp (.tup [.ref D, .ref tb]) = H3 at s3 dB eD3 ⊢
      have f3 := f1.then s3
      have hD0 : H D = none := fr_none f1 nD
      obtain ⟨Dd, Dc⟩ := deck_ne hD hD0
      have hI3 := hI.same s3
      have hF3 := hF.mono (Same.ext s3)
      refine ⟨_, rfl, _, rfl, szl (show 10 ≤ 1000000 by decide), fun pl npl => ?_⟩
      have s4 := same_new (o := .lst [.int 3, .int 2, .int 4, .int 1, .int 5, .int 3, .int 0, .int 6, .int 9, .int 16]) npl
      have f4 := f3.then s4
      obtain ⟨_, plc⟩ := deck_ne f3.deck npl
      refine ⟨d, c, pl, _, rfl, f4.deck, upd_same, plc, (show 0 < 10 by decide), (show 10 ≤ 1000 by decide), fun i0 x0 H5 ex0 f5 => ?_⟩
      obtain ⟨k0, rfl, hk0⟩ : ∃ k : Nat, x0 = .int (k : Int) ∧ k ≤ 16 := by
        match i0, ex0 with
        | 0, ex => exact ⟨3, (Option.some.inj ex).symm, by decide⟩
        | 1, ex => exact ⟨2, (Option.some.inj ex).symm, by decide⟩
        | 2, ex => exact ⟨4, (Option.some.inj ex).symm, by decide⟩
        | 3, ex => exact ⟨1, (Option.some.inj ex).symm, by decide⟩
        | 4, ex => exact ⟨5, (Option.some.inj ex).symm, by decide⟩
        | 5, ex => exact ⟨3, (Option.some.inj ex).symm, by decide⟩
        | 6, ex => exact ⟨0, (Option.some.inj ex).symm, by decide⟩
        | 7, ex => exact ⟨6, (Option.some.inj ex).symm, by decide⟩
        | 8, ex => exact ⟨9, (Option.some.inj ex).symm, by decide⟩
        | 9, ex => exact ⟨16, (Option.some.inj ex).symm, by decide⟩
      have f35 := (Fr.of f3.deck s4).trans f5
      have x35 := f35.ext (K := K) f3.deck
      obtain ⟨nn, en, nn1, nn2⟩ : ∃ nn : Nat, (if (k0 : Int) < (most : Int) then (k0 : Int) else (most : Int)) = (nn : Int) ∧ nn ≤ most ∧ nn ≤ 6 := by
        by_cases h : (k0 : Int) < (most : Int)
        · exact ⟨k0, if_pos h, by omega, by omega⟩
        · exact ⟨most, if_neg h, by omega, by omega⟩
      refine ⟨_, _, rfl, (nn : Int), congrArg (fun z => [V.int z]) en, by omega, by omega, ?_⟩
      refine for_range (n := nn) (SgInv K H d c D ai most insh x2 ins facts) ⟨_, _, _, _, _, _, _, [], _, rfl, f3.trans f35, ?_, dB.mono x35, rfl, fun j s e => (by cases e), fun j s e => (by cases e), hI3.fr f3.deck f35, hF3.mono x35⟩ ?_ ?_
      · rw [fr_lst f35 f3.deck eD3 Dc]
        unfold knownS
        rw [List.map_nil, List.append_nil]
      · rintro i σ H6 hi ⟨o3, o9, o10, o11, o12, o13, o14, body, bv, rfl, f6, hk, hb, hl, bok, blt, hI6, hF6⟩
        have hi16 : i < LETS.cps.toList.length := by
          have : LETS.cps.toList.length = 16 := by decide +kernel
          omega
        have eL : LETS.cps.toList[i]? = some (LETS.cps.toList.getD i 0) := by rw [List.getD_eq_getElem?_getD, List.getElem?_eq_getElem hi16]; rfl
        have kl : (knownS ins body).length = ins.length + i := by unfold knownS; rw [List.length_append, List.length_map, List.length_map, hl]
        refine ⟨_, rfl, LETS, _, _, rfl, rfl, szl (show LETS.length ≤ 1000000 by decide +kernel), (by rw [Int.zero_add]; exact atI_nat eL), ?_⟩
        refine ⟨_, rfl, szl (show 5 ≤ 1000000 by decide), fun l1 nl1 => ?_⟩
        have t1 := same_new (o := .lst [.str "plus", .str "minus", .str "times", .str "plus", .str "minus"]) nl1
        obtain ⟨_, l1c⟩ := deck_ne f6.deck nl1
        refine ⟨d, c, l1, _, rfl, f6.deck.same t1, upd_same, l1c, (show 0 < 5 by decide), (show 5 ≤ 1000 by decide), fun i1 w1 H7 ew f7 => ?_⟩
        obtain ⟨op, rfl⟩ : ∃ op : Op, w1 = .str op.str := by
          match i1, ew with
          | 0, ex => exact ⟨.plus, (Option.some.inj ex).symm⟩
          | 1, ex => exact ⟨.minus, (Option.some.inj ex).symm⟩
          | 2, ex => exact ⟨.times, (Option.some.inj ex).symm⟩
          | 3, ex => exact ⟨.plus, (Option.some.inj ex).symm⟩
          | 4, ex => exact ⟨.minus, (Option.some.inj ex).symm⟩
        have f67 := (Fr.of f6.deck t1).trans f7
        have hk7 := fr_lst f67 f6.deck hk Dc
        refine ⟨_, _, rfl, _, rfl, _, rfl, _, rfl, _, rfl, D, _, rfl, SqL.of hk7, fun p np => ?_⟩
        obtain ⟨c1, c2, c3⟩ := cut_tail (xs := (knownS ins body).map V.str) (k := -5) (by decide) (by rw [List.length_map]; omega)
        have t2 := same_new (o := .lst (cutV ((knownS ins body).map V.str) (some (-5)) none)) np
        obtain ⟨_, pc⟩ := deck_ne f67.deck np
        refine ⟨d, c, p, _, rfl, f67.deck.same t2, upd_same, pc, c1, by rw [List.length_map] at c2; omega, fun i2 w2 H8 ew2 f8 => ?_⟩
        obtain ⟨one, m1, rfl⟩ := str_mem (c3 i2 w2 ew2)
        have f68 := f67.trans ((Fr.of f67.deck t2).trans f8)
        have hk8 := fr_lst f68 f6.deck hk Dc
        refine ⟨_, rfl, _, rfl, d, c, D, _, rfl, f68.deck, hk8, Dc, by rw [List.length_map]; omega, by rw [List.length_map]; omega, fun i3 w3 H9 ew3 f9 => ?_⟩
        obtain ⟨oth, m2, rfl⟩ := str_mem (List.mem_of_getElem? ew3)
        have f69 := f68.trans f9
        refine ⟨_, _, rfl, _, rfl, _, rfl, _, rfl, szl (show 7 ≤ 1000000 by decide), fun l2 nl2 => ?_⟩
        have t3 := same_new (o := .lst [.int (-1), .int 1, .int 2, .int (-2), .int 3, .int 0, .int 12]) nl2
        obtain ⟨_, l2c⟩ := deck_ne f69.deck nl2
        refine ⟨d, c, l2, _, rfl, f69.deck.same t3, upd_same, l2c, (show 0 < 7 by decide), (show 7 ≤ 1000 by decide), fun i4 w4 H10 ew4 f10 => ?_⟩
        obtain ⟨fac, rfl, fa1, fa2⟩ : ∃ k : Int, w4 = .int k ∧ -12 ≤ k ∧ k ≤ 12 := by
          match i4, ew4 with
          | 0, ex => exact ⟨-1, (Option.some.inj ex).symm, by decide, by decide⟩
          | 1, ex => exact ⟨1, (Option.some.inj ex).symm, by decide, by decide⟩
          | 2, ex => exact ⟨2, (Option.some.inj ex).symm, by decide, by decide⟩
          | 3, ex => exact ⟨-2, (Option.some.inj ex).symm, by decide, by decide⟩
          | 4, ex => exact ⟨3, (Option.some.inj ex).symm, by decide, by decide⟩
          | 5, ex => exact ⟨0, (Option.some.inj ex).symm, by decide, by decide⟩
          | 6, ex => exact ⟨12, (Option.some.inj ex).symm, by decide, by decide⟩
        have f610 := f69.trans ((Fr.of f69.deck t3).trans f10)
        by_cases e : op = .times
        · subst e
          refine ⟨_, rfl, rfl, true, rfl, iteT ?_⟩
          refine ⟨_, rfl, _, rfl, _, rfl, _, rfl, d, c, rfl, f610.deck, fun kd kv H11 f11 kok dk => ⟨_, rfl, _, rfl, szl (show 5 ≤ 1000000 by decide), fun t5 n5 => ⟨szl (show 1 ≤ 1000000 by decide), fun t1 n1 => ?_⟩⟩⟩
          have f611 := f610.trans f11
          have u5 := same_new (o := .tup [.str "times", .str (letN i), kv, .int fac, .str one]) n5
          have ds := st_new (K := K) (s := ⟨.times, letN i, kd, fac, one, one⟩) (kv := kv) (m := .int fac) n5 dk rfl
          have ds1 := den_new (K := K) (l := [Stm.d ⟨.times, letN i, kd, fac, one, one⟩]) (vs := [.ref t5]) n1 (denL_one ds)
          have u6 := same_new (o := .tup [.ref t5]) n1
          have fZ := f611.then (u5.trans u6)
          have hbZ := hb.mono (fZ.ext f6.deck)
          refine cat_den hbZ ds1 (by simp; omega) fun wv HZ sZ dw => ?_
          have fz2 := fZ.then sZ
          have xZ := fz2.ext (K := K) f6.deck
          have hkZ := fr_lst fz2 f6.deck hk Dc
          refine ⟨_, rfl, .inl ⟨rfl, _, SqL.of hkZ⟩, _, rfl, D, _, _, rfl, rfl, hkZ, szlt (by rw [List.length_map]; omega), ?_⟩
          refine sg_next (s := ⟨.times, letN i, kd, fac, one, one⟩) hD hD0 (f6.trans fz2) hkZ ?_ hl (by omega) bok blt rfl kok ⟨fun _ => ⟨fa1, fa2⟩, fun z => absurd rfl z, known_get.mpr m1⟩ (hI6.fr f6.deck fz2) (hF6.mono xZ) nm
          unfold bodyD
          rw [List.map_append]; exact dw
        · refine ⟨_, rfl, rfl, false, ?_, iteF ?_⟩
          · cases op with
            | times => exact absurd rfl e
            | plus => rfl
            | minus => rfl
          refine ⟨_, rfl, _, rfl, _, rfl, _, rfl, d, c, rfl, f610.deck, fun kd kv H11 f11 kok dk => ⟨_, rfl, _, rfl, szl (show 5 ≤ 1000000 by decide), fun t5 n5 => ⟨szl (show 1 ≤ 1000000 by decide), fun t1 n1 => ?_⟩⟩⟩
          have f611 := f610.trans f11
          have u5 := same_new (o := .tup [.str op.str, .str (letN i), kv, .str one, .str oth]) n5
          have hmid : Den K H11 (Stm.mid ⟨op, letN i, kd, fac, one, oth⟩) (.str one) := by unfold Stm.mid; rw [if_neg e]; rfl
          have ds := st_new (K := K) (s := ⟨op, letN i, kd, fac, one, oth⟩) (kv := kv) (m := .str one) n5 dk hmid
          have ds1 := den_new (K := K) (l := [Stm.d ⟨op, letN i, kd, fac, one, oth⟩]) (vs := [.ref t5]) n1 (denL_one ds)
          have u6 := same_new (o := .tup [.ref t5]) n1
          have fZ := f611.then (u5.trans u6)
          have hbZ := hb.mono (fZ.ext f6.deck)
          refine cat_den hbZ ds1 (by simp; omega) fun wv HZ sZ dw => ?_
          have fz2 := fZ.then sZ
          have xZ := fz2.ext (K := K) f6.deck
          have hkZ := fr_lst fz2 f6.deck hk Dc
          refine ⟨_, rfl, .inl ⟨rfl, _, SqL.of hkZ⟩, _, rfl, D, _, _, rfl, rfl, hkZ, szlt (by rw [List.length_map]; omega), ?_⟩
          refine sg_next (s := ⟨op, letN i, kd, fac, one, oth⟩) hD hD0 (f6.trans fz2) hkZ ?_ hl (by omega) bok blt rfl kok ⟨fun z => absurd z e, fun _ => known_get.mpr m1, known_get.mpr m2⟩ (hI6.fr f6.deck fz2) (hF6.mono xZ) nm
          unfold bodyD
          rw [List.map_append]; exact dw
      · rintro σ H6 ⟨o3, o9, o10, o11, o12, o13, o14, body, bv, rfl, f6, hk, hb, hl, bok, blt, hI6, hF6⟩
        have kl : (knownS ins body).length = ins.length + nn := by unfold knownS; rw [List.length_append, List.length_map, List.length_map, hl]
        refine ⟨_, rfl, szl (show 5 ≤ 1000000 by decide), fun l1 nl1 => ?_⟩
        have t1 := same_new (o := .lst [.int 1, .int 2, .int 1, .int 3, .int 4]) nl1
        obtain ⟨_, l1c⟩ := deck_ne f6.deck nl1
        refine ⟨d, c, l1, _, rfl, f6.deck.same t1, upd_same, l1c, (show 0 < 5 by decide), (show 5 ≤ 1000 by decide), fun i1 w1 H7 ew f7 => ?_⟩
        obtain ⟨kk, rfl, kk1, kk2⟩ : ∃ k : Nat, w1 = .int (k : Int) ∧ 1 ≤ k ∧ k ≤ 4 := by
          match i1, ew with
          | 0, ex => exact ⟨1, (Option.some.inj ex).symm, by decide, by decide⟩
          | 1, ex => exact ⟨2, (Option.some.inj ex).symm, by decide, by decide⟩
          | 2, ex => exact ⟨1, (Option.some.inj ex).symm, by decide, by decide⟩
          | 3, ex => exact ⟨3, (Option.some.inj ex).symm, by decide, by decide⟩
          | 4, ex => exact ⟨4, (Option.some.inj ex).symm, by decide, by decide⟩
        have f67 := (Fr.of f6.deck t1).trans f7
        have hk7 := fr_lst f67 f6.deck hk Dc
        refine ⟨(kk : Int), rfl, by omega, by omega, fun D2 nD2 => ?_⟩
        obtain ⟨e1, e2⟩ := deck_ne f67.deck nD2
        have D2D : D ≠ D2 := ne_of_none hk7 nD2
        have fD2 := Fr.of f67.deck (same_new (o := .lst []) nD2)
        refine lc_it (n := kk) walk_range (fun i H' => Fr d c H7 H' ∧ ∃ os : List Str, H' D2 = some (.lst (os.map V.str)) ∧ os.length = i ∧ ∀ x ∈ os, x ∈ knownS ins body) ⟨fD2, [], upd_same, rfl, fun x hx => by cases hx⟩ (fun _ _ _ _ => trivial) ?_ ?_
        · rintro i x H8 H9 hi ⟨f8, os, eo, lo, mo⟩ ⟨rfl, rfl⟩
          have hk8 := fr_lst f8 f67.deck hk7 Dc
          refine ⟨rfl, _, rfl, _, rfl, _, rfl, _, rfl, D, _, rfl, SqL.of hk8, fun p np => ?_⟩
          obtain ⟨c1, c2, c3⟩ := cut_tail (xs := (knownS ins body).map V.str) (k := -4) (by decide) (by rw [List.length_map]; omega)
          have t2 := same_new (o := .lst (cutV ((knownS ins body).map V.str) (some (-4)) none)) np
          obtain ⟨_, pc⟩ := deck_ne f8.deck np
          refine ⟨d, c, p, _, rfl, f8.deck.same t2, upd_same, pc, c1, by rw [List.length_map] at c2; omega, fun i2 w2 H10 ew2 f10 => ?_⟩
          obtain ⟨one, m1, rfl⟩ := str_mem (c3 i2 w2 ew2)
          have f9 := (Fr.of f8.deck t2).trans f10
          have eo10 := fr_lst f9 f8.deck eo e2
          refine ⟨_, eo10, szlt (by rw [List.length_map]; omega), fr_upd f67.deck (f8.trans f9) nD2, os ++ [one], ?_, by rw [List.length_append, lo]; rfl, fun x hx => ?_⟩
          · rw [upd_same, List.map_append]; rfl
          · rcases List.mem_append.mp hx with h | h
            · exact mo x h
            · rw [List.mem_singleton.mp h]; exact m1
        · rintro H8 ⟨f8, os, eo, lo, mo⟩
          refine ⟨D2, _, rfl, .inl ⟨SqL.of eo, fun tq ntq => ⟨_, rfl, _, rfl, _, rfl, _, rfl, szl (show 4 ≤ 1000000 by decide), fun t nt => ?_⟩⟩⟩
          have u1 := same_new (o := .tup (os.map V.str)) ntq
          have u2 := same_new (o := .tup [.ref ai, x2, bv, .ref tq]) nt
          have fz := (f67.trans f8).then (u1.trans u2)
          have xz := fz.ext (K := K) f6.deck
          refine q (.ref t) ⟨ins, facts, body, os⟩ _ (f6.trans fz) ⟨t, _, _, _, _, rfl, .inl (.inl upd_same), hI6.fr f6.deck fz, hF6.mono xz, hb.mono xz, ?_⟩ ⟨⟨iok, fok, bok, by show body.length ≤ 24; omega, by show 1 ≤ os.length; omega, by show os.length ≤ 4; omega, fun x hx => known_get.mpr (mo x hx)⟩, il, by show body.length ≤ most; omega, nm, blt, fl⟩
          exact (den_new ntq (denL_strs os)).mono (Same.ext u2)
end
end K28
end
section
set_option Elab.async false
set_option linter.all false
set_option maxRecDepth 100000
set_option maxHeartbeats 4000000
set_option exponentiation.threshold 2000
namespace K28
open PySem L2
/-! drawn given integers -/
theorem find_nth {α : Type} : ∀ {l : List (Str × α)} {i : Nat} {q : Str × α}, (l.map (·.1)).Nodup → l[i]? = some q → (l.find? fun p => decide (p.1 = q.1)) = some q
  | [], _, _, _, h => by simp at h
  | p :: l, 0, q, _, h => by
    obtain rfl : p = q := Option.some.inj h
    rw [List.find?_cons]
    simp
  | p :: l, i + 1, q, nd, h => by
    rw [List.map_cons, List.nodup_cons] at nd
    rw [List.getElem?_cons_succ] at h
    have ne : ¬ p.1 = q.1 := fun z => nd.1 (by rw [z]; exact List.mem_map.mpr ⟨q, List.mem_of_getElem? h, rfl⟩)
    have := find_nth nd.2 h
    rw [List.find?_cons]
    simp only [ne, decide_false]
    exact this
theorem idx_ins {ins : List (Str × Kd)} {x : Str} (h : x ∈ ins.map (·.1)) : ∃ r, ins[idxN ins x]? = some r ∧ r.1 = x ∧ idxN ins x < ins.length := by
  obtain ⟨j, ej, e1, _⟩ := index_at h
  rw [List.getElem?_map] at e1
  unfold idxN
  rw [ej]
  cases e : ins[j]? with
  | none => rw [e] at e1; cases e1
  | some r =>
    rw [e] at e1
    exact ⟨r, rfl, Option.some.inj e1, (List.getElem?_eq_some_iff.mp e).1⟩
theorem getV_in0 {ins : List (Str × Kd)} {g : List Int} (nd : (ins.map (·.1)).Nodup) {x : Str} (h : x ∈ ins.map (·.1)) : getV (in0 ins g ins.length) x = g.getD (idxN ins x) 0 := by
  obtain ⟨r, e, er, hi⟩ := idx_ins h
  have e0 : (in0 ins g ins.length)[idxN ins x]? = some (r.1, g.getD (idxN ins x) 0) := by
    unfold in0
    rw [List.getElem?_map, List.getElem?_range hi]
    have : ins.getD (idxN ins x) ("", ⟨true, 0⟩) = r := by rw [List.getD_eq_getElem?_getD, e]; rfl
    show some ((ins.getD (idxN ins x) ("", ⟨true, 0⟩)).1, _) = _
    rw [this]
  have := find_nth (by rw [names_in0]; exact nd) e0
  unfold getV
  rw [← er] at this ⊢
  rw [this]; rfl
/-- the places of the inputs -/
def plD (ins : List (Str × Kd)) (i : Nat) : Dt := .t [.s (ins.getD i ("", ⟨true, 0⟩)).1, .i (i : Int)]
def plL (ins : List (Str × Kd)) : NL := (List.range ins.length).map fun i => ((ins.getD i ("", ⟨true, 0⟩)).1, .i (i : Int))
theorem names_plL (ins : List (Str × Kd)) : (plL ins).map (·.1) = ins.map (·.1) := by
  unfold plL
  rw [List.map_map]
  exact map_at ins ("", ⟨true, 0⟩) (fun r => r.1)
theorem plL_get {ins : List (Str × Kd)} (nd : (ins.map (·.1)).Nodup) {x : Str} (h : x ∈ ins.map (·.1)) : getL (plL ins) x = some (.i (idxN ins x : Nat)) := by
  obtain ⟨r, e, er, hi⟩ := idx_ins h
  have e0 : (plL ins)[idxN ins x]? = some (r.1, .i (idxN ins x : Nat)) := by
    unfold plL
    rw [List.getElem?_map, List.getElem?_range hi]
    have : ins.getD (idxN ins x) ("", ⟨true, 0⟩) = r := by rw [List.getD_eq_getElem?_getD, e]; rfl
    show some ((ins.getD (idxN ins x) ("", ⟨true, 0⟩)).1, _) = _
    rw [this]
  have := find_nth (by rw [names_plL]; exact nd) e0
  unfold getL
  rw [← er] at this ⊢
  rw [this]; rfl
section
variable {P : Program} {w : World} {K : PySem.W.Frag} {mg : Str → Option Value} {base : Heap}
theorem pl_pairs {H : Hp} : ∀ {l : List (Str × Int)} {us : List V}, DenL K H (l.map fun p => .t [.s p.1, .i p.2]) us → ∃ (ps : List Addr) (kvs : List (Key × V)), us = ps.map V.ref ∧ Paired (fun p kv => SqT K H p [kV kv.1, kv.2]) ps kvs ∧ Paired (DR K H) (l.map fun p => (p.1, .i p.2)) kvs
  | [], _, h => ⟨[], [], h, .nil, .nil⟩
  | p :: l, _, ⟨v, r, e, ⟨a, vs, e1, aT, v1, r1, e2, e3, v2, r2, e4, e5, e6⟩, h2⟩ => by
    obtain ⟨ps, kvs, e7, h3, h4⟩ := pl_pairs h2
    have e3' : v1 = .str p.1 := e3
    have e5' : v2 = .int p.2 := e5
    have e6' : r2 = [] := e6
    subst e1 e2 e3' e4 e5' e6'
    exact ⟨a :: ps, (.inr p.1, .int p.2) :: kvs, by rw [e, e7]; rfl, .cons aT h3, .cons ⟨rfl, rfl⟩ h4⟩
theorem pl_dict {H : Hp} {ins : List (Str × Kd)} {ys : List V} (h : DenL K H ((List.range ins.length).map (plD ins)) ys) (nd : (ins.map (·.1)).Nodup) :
    ∃ (ps : List Addr) (kvs : List (Key × V)), ys = ps.map V.ref ∧ Paired (fun p kv => SqT K H p [kV kv.1, kv.2]) ps kvs ∧ ∀ p, H p = none → DD K (upd H p (.dK (mergeK [] kvs))) p (plL ins) := by
  have e : (List.range ins.length).map (plD ins) = ((List.range ins.length).map fun i => ((ins.getD i ("", ⟨true, 0⟩)).1, (i : Int))).map fun p => .t [.s p.1, .i p.2] := by rw [List.map_map]; rfl
  rw [e] at h
  obtain ⟨ps, kvs, e1, e2, e3⟩ := pl_pairs h
  have e4 : ((List.range ins.length).map fun i => ((ins.getD i ("", ⟨true, 0⟩)).1, (i : Int))).map (fun p => (p.1, Dt.i p.2)) = plL ins := by rw [List.map_map]; rfl
  rw [e4] at e3
  refine ⟨ps, kvs, e1, e2, fun p hp => ?_⟩
  have em : mergeK [] kvs = kvs := merge_all (by
    rw [keys_of e3]
    have : (plL ins).map (fun p => (.inr p.1 : Key)) = ((plL ins).map (·.1)).map (fun x => (.inr x : Key)) := by rw [List.map_map]; rfl
    rw [this, names_plL]
    exact nodup_inr nd)
  rw [em]
  exact DD.copy e3 hp
theorem DD.fr {H H' : Hp} {d c a : Addr} {l : NL} (h : DD K H a l) (hD : Deck H d c) (f : Fr d c H H') (n1 : a ≠ d) (n2 : a ≠ c) : DD K H' a l := by
  obtain ⟨kvs, e, hp⟩ := h
  exact ⟨kvs, f.keep _ _ e n1 n2, DR.mono (f.ext hD) hp⟩
theorem snoc_lt {ns : List Int} {u : Int} {j : Nat} (h : j < ns.length) : (ns ++ [u]).getD j 0 = ns.getD j 0 := by
  rw [List.getD_eq_getElem?_getD, List.getElem?_append_left h, List.getD_eq_getElem?_getD]
theorem snoc_eq {ns : List Int} {u : Int} : (ns ++ [u]).getD ns.length 0 = u := by
  rw [List.getD_eq_getElem?_getD, List.getElem?_append_right (Nat.le_refl _), Nat.sub_self]; rfl
theorem zeros_ok {p : Pg} {b : Int} (hb : 0 ≤ b) (ok : PgOk p) : GivenOk p b (List.replicate p.ins.length 0) := by
  have z : ∀ j, (List.replicate p.ins.length (0 : Int)).getD j 0 = 0 := fun j => by
    rw [List.getD_eq_getElem?_getD, List.getElem?_replicate]
    split <;> rfl
  refine ⟨List.length_replicate, fun i hi => ?_, fun q hq => ?_⟩
  · rw [z]
    unfold fits
    refine decide_eq_true ⟨?_, ?_⟩
    · split
      · have : 0 ≤ ((p.ins.getD i ("", ⟨true, 0⟩)).2.k : Int) * b := Int.mul_nonneg (by omega) hb
        rw [Int.neg_mul]; omega
      · exact Int.le_refl _
    · exact Int.mul_nonneg (by omega) hb
  · obtain ⟨h1, h2, _⟩ := ok.facts.f2 q hq
    rw [getV_in0 ok.ins.nd h1, getV_in0 ok.ins.nd h2, z, z]
    exact Int.le_refl _
theorem sc_law_given : FnScope ["_law_deck_here", "_law_program", "_law_bound", "_law_places", "_law_go", "_law_ins", "_law_facts", "_law_found", "_law_name", "_law_kind_here", "_law_number", "_law_at_here", "_law_pair", "_law_small", "_law_large"] ["_law_deck_here", "_law_program", "_law_bound"] (defScope (top 102)) := ⟨rfl, rfl, rfl, by decide +kernel, rfl, by decide +kernel, by decide +kernel⟩
def sp_given (K : PySem.W.Frag) : Sp := fun vs H Q _ => ∃ (d c : Addr) (u : V) (p : Pg) (b : Int), vs = [.ref d, u, .int b] ∧ Deck H d c ∧ PgAt K H p u ∧ PgOk p ∧ 1 ≤ b ∧ b ≤ 1000 ∧ ∀ v g H', Fr d c H H' → Den K H' (wd g) v → GivenOk p b g → Q v H'
theorem ok_law_given (T : Tx K mg) : FnOk P w K mg base CX0 3 665 (fdA K 665) ["_law_deck_here", "_law_program", "_law_bound"] (sp_given K) := by
  refine (f_law_given T).ok sc_law_given (fun vs H Q E h => ?_) (fun cdv A outer s H vs Q E hr h => ⟨_, PSs.nox (pss_cons (ps_asg (pe_slice (k_slT K) (pv 1) po_none (po_some pe_int)) (k_tgt K 2 rfl (pgs_cons (pg_name (i := 5) sc_law_given.nd rfl (.inl rfl) (hf := (.inl rfl))) (pgs_cons (pg_name (i := 6) sc_law_given.nd rfl (.inl rfl) (hf := (.inl rfl))) pgs_nil))))
  (pss_cons (ps_set (i := 3) sc_law_given.nd rfl (.inr rfl) (pe_callTy (call_dictP rfl) (by rfl) (free_dict T) (by decide +kernel) (pa_cons (pe_lc (own := [("_law_at_here", 11), ("_law_pair", 12)]) rfl sc_law_given.nd (k_enum K false (by rfl) (free_enumerate T) (pa_cons (pv 5) pa_nil)) (blkOk_by (N := ["_law_deck_here", "_law_program", "_law_bound", "_law_places", "_law_go", "_law_ins", "_law_facts", "_law_found", "_law_name", "_law_kind_here", "_law_number", "_law_at_here", "_law_pair", "_law_small", "_law_large"]) (sc := (defScope (top 102))) (by decide +kernel)) (fun _ _ _ _ _ => (k_tgt K 2 rfl (pgs_cons (pg_name (i := 11) sc_law_given.nd rfl (.inl rfl) (hf := (.inr rfl))) (pgs_cons (pg_name (i := 12) sc_law_given.nd rfl (.inl rfl) (hf := (.inr rfl))) pgs_nil)))) (fun _ _ _ _ _ => pts_nil) (fun _ _ _ _ _ => (pe_tup (pa_cons (pe_ix (k_ixT K) (pv 12) pe_int (fun _ _ => rfl)) (pa_cons (pv 11) pa_nil))))) pa_nil)))
  (pss_cons (ps_for PassesOwn.never rfl (pi_range1 (by rfl) (free_range T) (pa_cons pe_int pa_nil)) (pg_name (i := 4) sc_law_given.nd rfl (.inl rfl) (hf := (.inl rfl)))
    (pss_cons (ps_set (i := 7) sc_law_given.nd rfl (.inr rfl) (pe_lst pa_nil))
  (pss_cons (ps_for PassesOwn.never rfl (k_pit K (pv 5)) (k_tgt K 2 rfl (pgs_cons (pg_name (i := 8) sc_law_given.nd rfl (.inl rfl) (hf := (.inl rfl))) (pgs_cons (pg_name (i := 9) sc_law_given.nd rfl (.inl rfl) (hf := (.inl rfl))) pgs_nil)))
    (pss_cons (ps_set (i := 10) sc_law_given.nd rfl (.inl rfl) (pe_call (ok_law_far T) (hr.mono (by decide)) (by rfl) (g__law_far T) (f_law_far T).kp (b_law_far T) .nil pass0 (pa_cons (pv 0) (pa_cons (pe_op op_mul (pe_ix (k_ixT K) (pv 9) pe_int (fun _ _ => rfl)) (pv 2)) pa_nil))))
  (pss_one (ps_expr (pe_bm PySem.F.plainAttrs_list PySem.F.slot_list_append PySem.F.type_list_append mt_append (pv 7) (pa_cons (pe_ifExp (PW.pt (pw_and (pt_cmpR op_eq (pe_ix (k_ixT K) (pv 9) pe_int (fun _ _ => rfl)) pe_str (nomark _)) (pw_and1 (pt_cmpR op_eq (pe_call (ok_law_draw T) (hr.mono (by decide)) (by rfl) (g__law_draw T) (f_law_draw T).kp (b_law_draw T) .nil pass0 (pa_cons (pv 0) (pa_cons pe_int pa_nil))) pe_int (nomark _))))) (pe_un un_neg (pv 10)) (pv 10)) pa_nil))))))
  (pss_one (ps_if (pt_cmpR (k_eq K hr.units) (pe_lc (own := [("_law_small", 13), ("_law_large", 14)]) rfl sc_law_given.nd (k_pit K (pv 6)) (blkOk_by (N := ["_law_deck_here", "_law_program", "_law_bound", "_law_places", "_law_go", "_law_ins", "_law_facts", "_law_found", "_law_name", "_law_kind_here", "_law_number", "_law_at_here", "_law_pair", "_law_small", "_law_large"]) (sc := (defScope (top 102))) (by decide +kernel)) (fun _ _ _ _ _ => (k_tgt K 2 rfl (pgs_cons (pg_name (i := 13) sc_law_given.nd rfl (.inl rfl) (hf := (.inr rfl))) (pgs_cons (pg_name (i := 14) sc_law_given.nd rfl (.inl rfl) (hf := (.inr rfl))) pgs_nil)))) (fun _ _ _ _ _ => (pts_one (pt_cmpR op_gt (pe_ix (k_ixL K) (pv 7) (pe_dget (hu_of hr) (pv 3) (pv 13) (fun _ _ => rfl)) (fun _ _ => rfl)) (pe_ix (k_ixL K) (pv 7) (pe_dget (hu_of hr) (pv 3) (pv 14) (fun _ _ => rfl)) (fun _ _ => rfl)) (nomark _)))) (fun _ _ _ _ _ => pe_int)) (pe_lst pa_nil) (nomark _)) (pss_one (ps_ret (pe_callTy (k_tuple K) (by rfl) (free_tuple T) (by decide +kernel) (pa_cons (pv 7) pa_nil)))) pss_nil)))))
  (pss_one (ps_ret (pe_op (k_rep K) (pe_tup (pa_cons pe_int pa_nil)) (pe_callB (k_len K) (by rfl) (free_len T) (by decide +kernel) (pa_cons (pv 5) pa_nil)))))))), ?_⟩)
  · obtain ⟨d, c, u, p, b, rfl, _⟩ := h; rfl
  · obtain ⟨d, c, u, p, b, rfl, hD, ⟨a, x1, x2, x3, x4, rfl, hp⟩, ok, b1, b2, q⟩ := h
    have i2 := ok.ins.in2
    refine ⟨_, rfl, _, rfl, use_sl hp.tup fun cc H1 s1 hc => ?_⟩
    have hc2 : SqT K H1 cc [x1, x2] := hc
    refine g_pair hc2 ?_
    obtain ⟨ai, us, rfl, iT0, iL0⟩ := (hp.ins.same s1).den
    have ln := iL0.length
    rw [List.length_map] at ln
    have hF1 := hp.facts.mono (Same.ext s1)
    have f1 := Fr.of hD s1
    refine ⟨_, rfl, ai, us, rfl, iT0, fun D nD => lc_map (K := K) nD (n := us.length) (G := fun Hh => SqT K Hh ai us) (walk_enumB (k := false) (K := K) (a := ai) (xs := us)) (plD p.ins) (by omega) (fun Hh s => Same.ext s _ _ iT0) ?_ ?_⟩
    · rintro i x H2 H3 Q' hi s2 ⟨A', e1, e2, rfl, nA, rfl, ee, ef⟩ q'
      cases (Option.some.inj ee)
      have ef2 : us[i]? = some e2 := ef
      have s3 := same_new (o := .tup [.int (i : Int), e2]) nA
      obtain ⟨r, er, dr⟩ := map_at1 (DenL.mono (Same.ext (s2.trans s3)) iL0) ef2
      obtain ⟨ar, y, rfl, rT, dy⟩ := in_den dr
      have er2 : p.ins.getD i ("", ⟨true, 0⟩) = r := by rw [List.getD_eq_getElem?_getD, er]; rfl
      refine g_pair (.inl (.inl upd_same)) ⟨rfl, _, rfl, ar, _, _, _, rfl, rfl, rT, rfl, _, rfl, szl (show 2 ≤ 1000000 by decide), fun t nt => q' _ _ (s3.trans (same_new nt)) ?_⟩
      unfold plD
      rw [er2]
      exact den_new nt (denL_cons rfl (denL_cons rfl denL_nil))
    · intro H2 ys s2 eD dL
      rw [ln] at dL
      obtain ⟨ps, kvs, rfl, hpr, hdd⟩ := pl_dict dL ok.ins.nd
      refine ⟨D, ps, kvs, rfl, SqL.of eD, hpr, fun pl npl => ?_⟩
      have hd3 := hdd pl npl
      have s3 := s2.trans (same_new (o := .dK (mergeK [] kvs)) npl)
      have npl1 : H1 pl = none := noneBack npl s2
      obtain ⟨pd, pc⟩ := deck_ne f1.deck npl1
      generalize upd H2 pl (.dK (mergeK [] kvs)) = H3 at hd3 s3 ⊢
      have f3 := f1.then s3
      have hD3 := f3.deck
      have iT := Same.ext s3 _ _ iT0
      have iL := iL0.mono (Same.ext s3)
      have hF := hF1.mono (Same.ext s3)
      obtain ⟨af, fs, rfl, fT, fL⟩ := id hF
      have lf := fL.length
      rw [List.length_map] at lf
      have hfz := ok.facts.f1
      refine ⟨4, rfl, by decide, by decide, ?_⟩
      refine for_range (n := 4) (fun i σ H' => (∃ o4 o7 o8 o9 o10 o11 o12 o13 o14, σ = [some (.ref d), some (.ref a), some (.int b), some (.ref pl), o4, some (.ref ai), some (.ref af), o7, o8, o9, o10, o11, o12, o13, o14]) ∧ Fr d c H3 H') ⟨⟨_, _, _, _, _, _, _, _, _, rfl⟩, Fr.refl hD3⟩ ?_ ?_
      · rintro go σ H4 hgo ⟨⟨o4, o7, o8, o9, o10, o11, o12, o13, o14, rfl⟩, f4⟩
        refine ⟨szl (show 0 ≤ 1000000 by decide), fun l nl => ?_⟩
        have t1 := same_new (o := .lst []) nl
        have nl3 := fr_none f4 nl
        obtain ⟨ld, lc⟩ := deck_ne f4.deck nl
        have f5 := f4.then t1
        have el : upd H4 l (.lst []) l = some (.lst []) := upd_same
        generalize upd H4 l (.lst []) = H5 at t1 f5 el ⊢
        refine ⟨_, rfl, ai, rfl, ⟨us, f5.ext hD3 _ _ iT⟩, ?_⟩
        refine for_it (walk_tup (K := K) (a := ai) (xs := us)) (fun i σ H' => (∃ o4 o8 o9 o10 o11 o12 o13 o14, σ = [some (.ref d), some (.ref a), some (.int b), some (.ref pl), o4, some (.ref ai), some (.ref af), some (.ref l), o8, o9, o10, o11, o12, o13, o14]) ∧ Fr d c H3 H' ∧ ∃ ns : List Int, H' l = some (.lst (ns.map V.int)) ∧ ns.length = i ∧ ∀ j, j < i → fits (p.ins.getD j ("", ⟨true, 0⟩)).2 (ns.getD j 0) b = true)
          ⟨⟨_, _, _, _, _, _, _, _, rfl⟩, f5, [], el, rfl, fun j hj => absurd hj (Nat.not_lt_zero _)⟩ (fun i σ H' _ h => h.2.1.ext hD3 _ _ iT) ?_ ?_
        · rintro i x σ H6 H7 hi ⟨⟨o4, o8, o9, o10, o11, o12, o13, o14, rfl⟩, f6, ns, en, lns, fns⟩ ⟨rfl, ex⟩
          obtain ⟨r, er, dr⟩ := map_at1 (DenL.mono (f6.ext hD3) iL) ex
          obtain ⟨ar, y, rfl, rT, dy⟩ := in_den dr
          obtain ⟨ak, rfl, kT⟩ := kd_den dy
          have er2 : p.ins.getD i ("", ⟨true, 0⟩) = r := by rw [List.getD_eq_getElem?_getD, er]; rfl
          have hkd := (ok.ins.nm r (List.mem_of_getElem? er)).2
          have hk1 : 1 ≤ r.2.k ∧ r.2.k ≤ 30 := of_decide_eq_true hkd
          have kb0 : 0 ≤ (r.2.k : Int) * b := Int.mul_nonneg (by omega) (by omega)
          have kb1 : (r.2.k : Int) * b ≤ 30 * 1000 := Int.mul_le_mul (by omega) b2 (by omega) (by omega)
          refine g_pair rT ?_
          refine ⟨_, rfl, _, rfl, ak, _, _, _, rfl, rfl, kT, rfl, _, rfl, _, _, rfl, rfl, .inl ⟨by omega, by omega⟩, d, c, _, rfl, f6.deck, kb0, by omega, fun v H8 v0 v1 f8 => ?_⟩
          have kT8 := f8.ext f6.deck _ _ kT
          have en8 := fr_lst f8 f6.deck en lc
          have fin : ∀ (H9 : Hp) (u : Int), Fr d c H8 H9 → fits r.2 u b = true → H9 l = some (.lst (ns.map V.int)) ∧ Fr d c H3 (upd H9 l (.lst (ns.map V.int ++ [V.int u]))) ∧ ∃ ms : List Int, upd H9 l (.lst (ns.map V.int ++ [V.int u])) l = some (.lst (ms.map V.int)) ∧ ms.length = i + 1 ∧ ∀ j, j < i + 1 → fits (p.ins.getD j ("", ⟨true, 0⟩)).2 (ms.getD j 0) b = true := by
            intro H9 u f9 fu
            refine ⟨fr_lst f9 f8.deck en8 lc, fr_upd hD3 (f6.trans (f8.trans f9)) nl3, ns ++ [u], by rw [upd_same, List.map_append]; rfl, by rw [List.length_append, lns]; rfl, fun j hj => ?_⟩
            by_cases hj2 : j < i
            · rw [snoc_lt (by omega)]
              exact fns j hj2
            · obtain rfl : j = i := by omega
              rw [er2, ← lns, snoc_eq]
              exact fu
          refine ⟨_, rfl, .inl ⟨rfl, _, SqL.of en8⟩, _, rfl, ak, _, _, _, rfl, rfl, kT8, rfl, rfl, _, rfl, lastB _ (fun c1 => ?_) (fun c1 => iteF ⟨_, rfl, ?_⟩)⟩
          · have cb : r.2.both = true := by
              have := V.str.inj (of_decide_eq_true c1)
              cases e : r.2.both with
              | true => rfl
              | false => rw [e] at this; exact absurd this (by decide)
            refine ⟨_, rfl, d, c, 2, rfl, f8.deck, by decide, by decide, fun r2 H9 r20 r21 f9 => ⟨rfl, _, rfl, lastB _ (fun c2 => ?_) (fun c2 => ?_)⟩⟩
            · obtain ⟨g1, g2, g3⟩ := fin H9 (-v) f9 (by unfold fits; rw [cb]; exact decide_eq_true ⟨by rw [if_pos rfl, Int.neg_mul]; omega, by omega⟩)
              exact ⟨_, rfl, _, rfl, l, _, _, rfl, rfl, g1, szlt (by rw [List.length_map]; omega), ⟨_, _, _, _, _, _, _, _, rfl⟩, g2, g3⟩
            · obtain ⟨g1, g2, g3⟩ := fin H9 v f9 (by unfold fits; rw [cb]; exact decide_eq_true ⟨by rw [if_pos rfl, Int.neg_mul]; omega, v1⟩)
              exact ⟨_, rfl, l, _, _, rfl, rfl, g1, szlt (by rw [List.length_map]; omega), ⟨_, _, _, _, _, _, _, _, rfl⟩, g2, g3⟩
          · obtain ⟨g1, g2, g3⟩ := fin H8 v (Fr.refl f8.deck) (by unfold fits; exact decide_eq_true ⟨by split <;> (try rw [Int.neg_mul]) <;> omega, v1⟩)
            exact ⟨l, _, _, rfl, rfl, g1, szlt (by rw [List.length_map]; omega), ⟨_, _, _, _, _, _, _, _, rfl⟩, g2, g3⟩
        · rintro σ H6 ⟨⟨o4, o8, o9, o10, o11, o12, o13, o14, rfl⟩, f6, ns, en, lns, fns⟩
          have dd6 := hd3.fr hD3 f6 pd pc
          have fT6 := f6.ext hD3 _ _ fT
          have fL6 := fL.mono (f6.ext hD3)
          have at_ : ∀ x, x ∈ p.ins.map (·.1) → ∀ (H7 : Hp), Same H6 H7 → ∃ v, DGet H7 pl (.str x) (some v) ∧ v = .int (idxN p.ins x : Nat) ∧ atI (ns.map V.int) (idxN p.ins x : Nat) = some (.int (ns.getD (idxN p.ins x) 0)) := fun x hx H7 s7 => by
            obtain ⟨v, g1, g2⟩ := (dd6.same s7).get (plL_get ok.ins.nd hx)
            obtain ⟨_, _, _, hi⟩ := idx_ins hx
            exact ⟨v, g1, g2, atI_nat (int_at (by omega))⟩
          refine ⟨_, rfl, af, rfl, ⟨fs, fT6⟩, fun D2 nD2 => lc_ones nD2 (walk_tup (K := K) (a := af) (xs := fs)) (fun i => decide (ns.getD (idxN p.ins (p.facts.getD i ("", "")).1) 0 > ns.getD (idxN p.ins (p.facts.getD i ("", "")).2) 0)) (by omega) (fun Hh s => Same.ext s _ _ fT6) ?_ ?_⟩
          · rintro i x H7 H8 Qt Qf hi s7 ⟨rfl, ex⟩ q1 q2
            obtain ⟨r, er, dr⟩ := map_at1 (fL6.mono (Same.ext s7)) ex
            obtain ⟨ar, rfl, rT⟩ := ft_den dr
            obtain ⟨m1, m2, _⟩ := ok.facts.f2 r (List.mem_of_getElem? er)
            have er2 : p.facts.getD i ("", "") = r := by rw [List.getD_eq_getElem?_getD, er]; rfl
            rw [er2] at q1 q2
            obtain ⟨v1, g1, rfl, a1⟩ := at_ r.1 m1 _ s7
            obtain ⟨v2, g2, rfl, a2⟩ := at_ r.2 m2 _ s7
            have sl := SqL.of (K := K) (s7 _ _ en)
            refine g_pair rT ⟨rfl, _, rfl, _, rfl, _, rfl, pl, _, rfl, g1, l, _, _, _, rfl, rfl, sl, a1, _, rfl, _, rfl, _, rfl, pl, _, rfl, g2, l, _, _, _, rfl, rfl, sl, a2, _, _, rfl, rfl, _, rfl, lastB _ (fun c1 => q1 c1 _ (Same.refl _)) (fun c1 => q2 c1 _ (Same.refl _))⟩
          · intro H7 s7 eD7
            refine ⟨szl (show 0 ≤ 1000000 by decide), fun e ne => ?_⟩
            have s8 := same_new (o := .lst []) ne
            refine use_eqC (s8 _ _ eD7) upd_same ⟨_, rfl, lastB _ (fun c1 => ?_) (fun c1 => ?_)⟩
            · have c2 := onesL_nil.mp (of_decide_eq_true c1)
              have en8 := (s7.trans s8) _ _ en
              refine ⟨_, rfl, l, _, rfl, .inl ⟨SqL.of en8, fun lt nlt => ?_⟩⟩
              have s9 := s7.trans (s8.trans (same_new (o := .tup (ns.map V.int)) nlt))
              refine q (.ref lt) ns _ ((f3.trans f6).then s9) (den_wd (.inl (.inl upd_same))) ⟨by omega, fun j hj => fns j (by omega), fun r hr => ?_⟩
              obtain ⟨j, hj⟩ := List.mem_iff_getElem?.mp hr
              obtain ⟨m1, m2, _⟩ := ok.facts.f2 r hr
              have er2 : p.facts.getD j ("", "") = r := by rw [List.getD_eq_getElem?_getD, hj]; rfl
              have := of_decide_eq_false (c2 j (by have := (List.getElem?_eq_some_iff.mp hj).1; omega))
              rw [er2] at this
              rw [getV_in0 ok.ins.nd m1, getV_in0 ok.ins.nd m2]
              omega
            · exact ⟨⟨_, _, _, _, _, _, _, _, _, rfl⟩, f6.then (s7.trans s8)⟩
      · rintro σ H4 ⟨⟨o4, o7, o8, o9, o10, o11, o12, o13, o14, rfl⟩, f4⟩
        refine ⟨szl (show 1 ≤ 1000000 by decide), fun t nt => ⟨_, rfl, ai, us, rfl, .inr (Same.ext (same_new nt) _ _ (f4.ext hD3 _ _ iT)), ?_⟩⟩
        have t1 := same_new (o := .tup [.int 0]) nt
        refine rep_zero (.inl (.inl upd_same)) (by omega) (by omega) fun cz H5 s5 hz => ?_
        refine q (.ref cz) (List.replicate p.ins.length 0) H5 ((f3.trans f4).then (t1.trans s5)) (den_wd ?_) (zeros_ok (by omega) ok)
        have e1 : ((us.length : Int)).toNat = p.ins.length := by omega
        rw [e1] at hz
        exact hz
end
end K28
end
section
set_option Elab.async false
set_option linter.all false
set_option maxRecDepth 100000
set_option maxHeartbeats 4000000
set_option exponentiation.threshold 2000
namespace K28
open PySem L2
/-! another program with the same inputs -/
theorem some_names {l l' : NL} (e : l.map (·.1) = l'.map (·.1)) (x : Str) : (getL l x).isSome = (getL l' x).isSome := by
  have h : ∀ {l l' : NL}, l.map (·.1) = l'.map (·.1) → (getL l x).isSome = true → (getL l' x).isSome = true := fun e h => by
    rw [isSome_iff] at h ⊢
    rw [← e]; exact h
  cases h1 : (getL l x).isSome with
  | true => exact (h e h1).symm
  | false =>
    cases h2 : (getL l' x).isSome with
    | false => rfl
    | true => rw [h e.symm h2] at h1; cases h1
theorem none_names {l l' : NL} (e : l.map (·.1) = l'.map (·.1)) {x : Str} (h : getL l x = none) : getL l' x = none := by
  have := some_names e x
  rw [h] at this
  cases h2 : getL l' x with
  | none => rfl
  | some d => rw [h2] at this; cases this
theorem right_names {l l' : NL} (e : l.map (·.1) = l'.map (·.1)) {s : Stm} (h : okRight l s) : okRight l' s :=
  ⟨h.1, fun z => by rw [← some_names e]; exact h.2.1 z, by rw [← some_names e]; exact h.2.2⟩
theorem stL_names (b : List Stm) : (stL b).map (·.1) = bodyNames b := by unfold stL bodyNames; rw [List.map_map]; rfl
theorem body_like {l : NL} {b b' : List Stm} (h : BodyOk l b) (hn : bodyNames b' = bodyNames b)
    (hk : ∀ i s s', b[i]? = some s → b'[i]? = some s' → s'.kd.ok = true ∧ okRight (l ++ stL (b.take i)) s') : BodyOk l b' := by
  intro i s' e'
  have ln : b'.length = b.length := by
    have := congrArg List.length hn
    unfold bodyNames at this
    rwa [List.length_map, List.length_map] at this
  have hi := (List.getElem?_eq_some_iff.mp e').1
  have hi2 : i < b.length := by omega
  have e : b[i]? = some b[i] := List.getElem?_eq_getElem hi2
  obtain ⟨h1, h2⟩ := hk i _ s' e e'
  have en : s'.name = b[i].name := by
    have h3 : (bodyNames b')[i]? = (bodyNames b)[i]? := by rw [hn]
    unfold bodyNames at h3
    rw [List.getElem?_map, List.getElem?_map, e', e] at h3
    exact Option.some.inj h3
  have ok := h i _ e
  have el : (l ++ stL (b.take i)).map (·.1) = (l ++ stL (b'.take i)).map (·.1) := by
    rw [List.map_append, List.map_append, stL_names, stL_names]
    unfold bodyNames at hn ⊢
    rw [List.map_take, List.map_take, hn]
  exact ⟨by rw [en]; exact ok.nm, h1, none_names el (by rw [en]; exact ok.new), right_names el h2⟩
/-- one statement for another -/
def putS (b : List Stm) (k : Nat) (s : Stm) : List Stm := b.take k ++ [s] ++ b.drop (k + 1)
theorem putS_at {b : List Stm} {k : Nat} {s : Stm} (hk : k < b.length) (i : Nat) : (putS b k s)[i]? = if i = k then some s else b[i]? := by
  unfold putS
  have lt : (b.take k).length = k := by rw [List.length_take]; omega
  by_cases h : i < k
  · rw [if_neg (by omega), List.append_assoc, List.getElem?_append_left (by omega), List.getElem?_take_of_lt h]
  · by_cases e : i = k
    · subst e
      rw [if_pos rfl, List.append_assoc, List.getElem?_append_right (by omega), lt, Nat.sub_self]; rfl
    · rw [if_neg e, List.getElem?_append_right (by simp; omega), List.getElem?_drop]
      congr 1
      simp; omega
theorem putS_len {b : List Stm} {k : Nat} {s : Stm} (hk : k < b.length) : (putS b k s).length = b.length := by
  unfold putS
  simp; omega
theorem putS_names {b : List Stm} {k : Nat} {s t : Stm} (e : b[k]? = some t) (hn : s.name = t.name) : bodyNames (putS b k s) = bodyNames b := by
  have hk := (List.getElem?_eq_some_iff.mp e).1
  refine List.ext_getElem? fun i => ?_
  unfold bodyNames
  rw [List.getElem?_map, List.getElem?_map, putS_at hk]
  by_cases h : i = k
  · subst h
    rw [if_pos rfl, e]
    exact congrArg some hn
  · rw [if_neg h]
theorem putS_ok {l : NL} {b : List Stm} {k : Nat} {s t : Stm} (h : BodyOk l b) (e : b[k]? = some t) (hn : s.name = t.name) (hk : s.kd.ok = true) (hr : okRight (l ++ stL (b.take k)) t → okRight (l ++ stL (b.take k)) s) : BodyOk l (putS b k s) := by
  refine body_like h (putS_names e hn) fun i u u' e1 e2 => ?_
  have hk2 := (List.getElem?_eq_some_iff.mp e).1
  rw [putS_at hk2] at e2
  by_cases hi : i = k
  · subst hi
    rw [if_pos rfl] at e2
    cases Option.some.inj e2
    exact ⟨hk, hr (h _ t e).right⟩
  · rw [if_neg hi, e1] at e2
    cases Option.some.inj e2
    exact ⟨(h i u e1).kd, (h i u e1).right⟩
theorem body_take {l : NL} {b : List Stm} (h : BodyOk l b) (n : Nat) : BodyOk l (b.take n) := by
  intro i s e
  have hi := (List.getElem?_eq_some_iff.mp e).1
  rw [List.length_take] at hi
  rw [List.getElem?_take_of_lt (by omega)] at e
  rw [List.take_take, Nat.min_eq_left (by omega)]
  exact h i s e
theorem known_ok {p : Pg} (ok : PgOk p) {i : Nat} {x : Str} (h : (getL (insL p.ins ++ stL (p.body.take i)) x).isSome = true) : okName x = true := by
  rw [known_get] at h
  rcases List.mem_append.mp h with h | h
  · obtain ⟨q, hq, e⟩ := List.mem_map.mp h
    rw [← e]; exact (ok.ins.nm q hq).1
  · obtain ⟨s, hs, e⟩ := List.mem_map.mp h
    obtain ⟨j, hj⟩ := List.mem_iff_getElem?.mp (List.mem_of_mem_take hs)
    rw [← e]; exact (ok.body j s hj).nm
theorem body_fit {p : Pg} (ok : PgOk p) : (bodyD p.body).fit 60 = true := by
  refine List.all_eq_true.mpr fun d hd => ?_
  obtain ⟨s, hs, rfl⟩ := List.mem_map.mp hd
  obtain ⟨j, hj⟩ := List.mem_iff_getElem?.mp hs
  have so := ok.body j s hj
  refine List.all_eq_true.mpr fun e he => ?_
  simp only [List.mem_cons, List.not_mem_nil, or_false] at he
  rcases he with rfl | rfl | rfl | rfl | rfl
  · show PyData.strOk s.op.str = true
    cases s.op <;> decide +kernel
  · exact okName_str so.nm
  · exact fit_mono 2 58 _ (by decide) (by
      unfold Kd.d
      refine List.all_eq_true.mpr fun e he => ?_
      simp only [List.mem_cons, List.not_mem_nil, or_false] at he
      rcases he with rfl | rfl
      · show PyData.strOk _ = true
        cases s.kd.both <;> decide +kernel
      · rfl)
  · unfold Stm.mid
    by_cases h : s.op = .times
    · rw [if_pos h]; rfl
    · rw [if_neg h]
      exact okName_str (known_ok ok (so.right.2.1 h))
  · exact okName_str (known_ok ok so.right.2.2)
def setK (s : Stm) (k : Kd) : Stm := { s with kd := k }
/-- an input's name for any -/
def subN (n0 x : Str) : Str := if x ∈ NAMES then n0 else x
def subS (n0 : Str) (s : Stm) : Stm := { s with one := subN n0 s.one, other := subN n0 s.other }
def subD (n0 : Str) : Dt → Dt
  | .s x => .s (subN n0 x)
  | d => d
theorem sub_names (n0 : Str) (b : List Stm) : bodyNames (b.map (subS n0)) = bodyNames b := by unfold bodyNames; rw [List.map_map]; rfl
theorem sub_ok {p r : Pg} {m1 m2 : Nat} {n0 : Str} (hp : n0 ∈ p.ins.map (·.1)) (pn : ∀ q ∈ p.ins, q.1 ∈ NAMES) (sg : SgOk r m1 m2) (m16 : m1 ≤ 16) : BodyOk (insL p.ins) (r.body.map (subS n0)) := by
  intro i s e
  rw [List.getElem?_map] at e
  cases e1 : r.body[i]? with
  | none => rw [e1] at e; cases e
  | some t =>
    rw [e1] at e
    have es : subS n0 t = s := Option.some.inj e
    have hi := (List.getElem?_eq_some_iff.mp e1).1
    have bl := sg.bl
    have so := sg.ok.body i t e1
    have ln := sg.lt i t e1
    obtain ⟨l1, l2, l3, l4⟩ := letN_props (i := i) (by omega)
    have know : ∀ x, (getL (insL r.ins ++ stL (r.body.take i)) x).isSome = true → (getL (insL p.ins ++ stL ((r.body.map (subS n0)).take i)) (subN n0 x)).isSome = true := fun x hx => by
      rw [known_get] at hx ⊢
      unfold subN
      rcases List.mem_append.mp hx with h | h
      · obtain ⟨q, hq, e⟩ := List.mem_map.mp h
        rw [if_pos (by rw [← e]; exact sg.nm q hq)]
        exact List.mem_append_left _ hp
      · by_cases z : x ∈ NAMES
        · rw [if_pos z]
          exact List.mem_append_left _ hp
        · rw [if_neg z]
          refine List.mem_append_right _ ?_
          have := sub_names n0 r.body
          unfold bodyNames at this
          rw [List.map_take, this, ← List.map_take]
          exact h
    rw [← es]
    refine ⟨so.nm, so.kd, known_no fun z => ?_, so.right.1, fun z => know _ (so.right.2.1 z), know _ so.right.2.2⟩
    have z' : t.name ∈ knownS p.ins ((r.body.map (subS n0)).take i) := z
    rw [ln] at z'
    rcases List.mem_append.mp z' with h | h
    · obtain ⟨q, hq, e⟩ := List.mem_map.mp h
      exact l2 (by rw [← e]; exact pn q hq)
    · have := sub_names n0 r.body
      unfold bodyNames at this
      rw [List.map_take, this, ← List.map_take] at h
      obtain ⟨u, hu, e⟩ := List.mem_map.mp h
      obtain ⟨j, hj⟩ := List.mem_iff_getElem?.mp hu
      have hj2 := (List.getElem?_eq_some_iff.mp hj).1
      rw [List.length_take] at hj2
      rw [List.getElem?_take_of_lt (by omega)] at hj
      have := l3 j (by omega) (by rw [← e]; exact sg.lt j u hj)
      omega
theorem sub_mid (n0 : Str) (s : Stm) : subD n0 s.mid = (subS n0 s).mid := by
  unfold Stm.mid
  by_cases h : s.op = .times
  · rw [if_pos h, if_pos (show (subS n0 s).op = .times from h)]; rfl
  · rw [if_neg h, if_neg (show ¬ (subS n0 s).op = .times from h)]; rfl
theorem inV_int (n : Int) (l : List Str) : inV (.int n) (l.map V.str) = false := by
  unfold inV
  induction l with
  | nil => rfl
  | cons y l ih => rw [List.map_cons, List.any_cons, ih]; rfl
section
variable {P : Program} {w : World} {K : PySem.W.Frag} {mg : Str → Option Value} {base : Heap}
theorem use_slD {H : Hp} {u : V} {ds : List Dt} {lo hi : Option Int} {Q : VK} (hu : Den K H (.t ds) u) (q : ∀ c H', Same H H' → Den K H' (.t ((ds.drop (HT.sIx ds.length 0 lo)).take (HT.sIx ds.length ds.length hi - HT.sIx ds.length 0 lo))) c → Q c H') : kSl K u lo hi H Q := by
  obtain ⟨a, us, rfl, aT, aL⟩ := hu
  have l1 := aL.length
  refine use_sl aT fun c H' s hc => q _ _ s ⟨c, _, rfl, hc, ?_⟩
  unfold cutV
  rw [l1]
  exact ((aL.mono (Same.ext s)).drop _).take _
theorem use_slHead {H : Hp} {u : V} {ds : List Dt} {k : Nat} {Q : VK} (hu : Den K H (.t ds) u) (hk : k ≤ ds.length) (q : ∀ c H', Same H H' → Den K H' (.t (ds.take k)) c → Q c H') : kSl K u none (some (k : Int)) H Q := by
  refine use_slD hu fun c H' s hc => q c H' s ?_
  rw [HT.sIx_nat, HT.sIx_none, List.drop_zero, Nat.sub_zero, Nat.min_eq_left hk] at hc
  exact hc
theorem use_slTail {H : Hp} {u : V} {ds : List Dt} {k : Nat} {Q : VK} (hu : Den K H (.t ds) u) (hk : k ≤ ds.length) (q : ∀ c H', Same H H' → Den K H' (.t (ds.drop k)) c → Q c H') : kSl K u (some (k : Int)) none H Q := by
  refine use_slD hu fun c H' s hc => q c H' s ?_
  rw [HT.sIx_nat, HT.sIx_none, Nat.min_eq_left hk, List.take_of_length_le (by rw [List.length_drop]; omega)] at hc
  exact hc
theorem use_slInit {H : Hp} {u : V} {ds : List Dt} {Q : VK} (hu : Den K H (.t ds) u) (hn : 0 < ds.length) (q : ∀ c H', Same H H' → Den K H' (.t (ds.take (ds.length - 1))) c → Q c H') : kSl K u none (some (-1)) H Q := by
  refine use_slD hu fun c H' s hc => q c H' s ?_
  have e : HT.sIx ds.length ds.length (some (-1)) = ds.length - 1 := by
    show (if (-1 : Int) < 0 then ((-1 : Int) + (ds.length : Int)).toNat else min (-1 : Int).toNat ds.length) = _
    rw [if_pos (by decide)]; omega
  rw [e, HT.sIx_none, List.drop_zero, Nat.sub_zero] at hc
  exact hc
theorem den_tup1 {H : Hp} {p : Addr} {v : V} {d : Dt} (hp : H p = none) (h : Den K H d v) : Den K (upd H p (.tup [v])) (.t [d]) (.ref p) := den_new hp (denL_one h)
theorem sc_law_same_ins : FnScope ["_law_deck_here", "_law_one", "_law_way", "_law_names", "_law_at_here", "_law_it", "_law_wide", "_law_ins", "_law_facts", "_law_body", "_law_outs", "_law_found", "_law_known", "_law_more", "_law_word", "_law_sides", "_law_name", "_law_kind_here", "_law_far_here", "_law_x"] ["_law_deck_here", "_law_one"] (defScope (top 108)) := ⟨rfl, rfl, rfl, by decide +kernel, rfl, by decide +kernel, by decide +kernel⟩
def sp_same (K : PySem.W.Frag) : Sp := fun vs H Q _ => ∃ (d c : Addr) (u : V) (p : Pg), vs = [.ref d, u] ∧ Deck H d c ∧ PgAt K H p u ∧ SgOk p 5 3 ∧ ∀ v r H', Fr d c H H' → PgAt K H' r v → PgOk r → r.ins = p.ins → r.facts = p.facts → Q v H'
theorem ok_law_same_ins (T : Tx K mg) : FnOk P w K mg base CX0 6 695 (fdA K 695) ["_law_deck_here", "_law_one"] (sp_same K) := by
  refine (f_law_same_ins T).ok sc_law_same_ins (fun vs H Q E h => ?_) (fun cdv A outer s H vs Q E hr h => ⟨_, PSs.nox (pss_cons (ps_asg (pv 1) (k_tgt K 4 rfl (pgs_cons (pg_name (i := 7) sc_law_same_ins.nd rfl (.inl rfl) (hf := (.inl rfl))) (pgs_cons (pg_name (i := 8) sc_law_same_ins.nd rfl (.inl rfl) (hf := (.inl rfl))) (pgs_cons (pg_name (i := 9) sc_law_same_ins.nd rfl (.inl rfl) (hf := (.inl rfl))) (pgs_cons (pg_name (i := 10) sc_law_same_ins.nd rfl (.inl rfl) (hf := (.inl rfl))) pgs_nil))))))
  (pss_cons (ps_set (i := 2) sc_law_same_ins.nd rfl (.inl rfl) (pe_call (ok_law_draw T) (hr.mono (by decide)) (by rfl) (g__law_draw T) (f_law_draw T).kp (b_law_draw T) .nil pass0 (pa_cons (pv 0) (pa_cons pe_int pa_nil))))
  (pss_cons (ps_set (i := 3) sc_law_same_ins.nd rfl (.inr rfl) (pe_lc (own := [("_law_name", 16), ("_law_kind_here", 17)]) rfl sc_law_same_ins.nd (k_pit K (pv 7)) (blkOk_by (N := ["_law_deck_here", "_law_one", "_law_way", "_law_names", "_law_at_here", "_law_it", "_law_wide", "_law_ins", "_law_facts", "_law_body", "_law_outs", "_law_found", "_law_known", "_law_more", "_law_word", "_law_sides", "_law_name", "_law_kind_here", "_law_far_here", "_law_x"]) (sc := (defScope (top 108))) (by decide +kernel)) (fun _ _ _ _ _ => (k_tgt K 2 rfl (pgs_cons (pg_name (i := 16) sc_law_same_ins.nd rfl (.inl rfl) (hf := (.inr rfl))) (pgs_cons (pg_name (i := 17) sc_law_same_ins.nd rfl (.inl rfl) (hf := (.inr rfl))) pgs_nil)))) (fun _ _ _ _ _ => pts_nil) (fun _ _ _ _ _ => (pv 16))))
  (pss_cons (ps_if (PW.pt (pw_or (pt_cmpR op_eq (pv 2) pe_int (nomark _)) (pw_or1 (pt_cmpR (k_eq K hr.units) (pv 9) (pe_tup pa_nil) (nomark _))))) (pss_cons (ps_set (i := 11) sc_law_same_ins.nd rfl (.inl rfl) (pe_tup pa_nil))
  (pss_cons (ps_for PassesOwn.never rfl (k_pit K (pe_ix (k_ixT K) (pe_call (ok_law_single T) (hr.mono (by decide)) (by rfl) (g__law_single T) (f_law_single T).kp (b_law_single T) .nil pass0 (pa_cons (pv 0) (pa_cons pe_int (pa_cons pe_int pa_nil)))) pe_int (fun _ _ => rfl))) (pg_name (i := 5) sc_law_same_ins.nd rfl (.inl rfl) (hf := (.inl rfl)))
    (pss_cons (ps_setLc (i := 15) (own := [("_law_x", 19)]) rfl sc_law_same_ins.nd rfl rfl (sw_true rfl rfl rfl (by decide +kernel)) (k_pit K (pe_slice (k_slT K) (pv 5) (po_some pe_int) po_none)) (blkOk_by (N := ["_law_deck_here", "_law_one", "_law_way", "_law_names", "_law_at_here", "_law_it", "_law_wide", "_law_ins", "_law_facts", "_law_body", "_law_outs", "_law_found", "_law_known", "_law_more", "_law_word", "_law_sides", "_law_name", "_law_kind_here", "_law_far_here", "_law_x"]) (sc := (defScope (top 108))) (by decide +kernel)) (fun _ _ _ _ _ => (pg_name (i := 19) sc_law_same_ins.nd rfl (.inl rfl) (hf := (.inr rfl)))) (fun _ _ _ _ _ => pts_nil) (fun _ _ _ _ _ => (pe_ifExp (pt_cmpR (k_inS K) (pv 19) (pe_tup (pa_cons pe_str (pa_cons pe_str (pa_cons pe_str (pa_cons pe_str (pa_cons pe_str (pa_cons pe_str pa_nil))))))) (by rfl)) (pe_ix (k_ixL K) (pv 3) pe_int (fun _ _ => rfl)) (pv 19))))
  (pss_one (ps_set (i := 11) sc_law_same_ins.nd rfl (.inl rfl) (pe_op (k_cat K) (pv 11) (pe_tup (pa_cons (pe_op (k_cat K) (pe_slice (k_slT K) (pv 5) po_none (po_some pe_int)) (pe_callTy (k_tuple K) (by rfl) (free_tuple T) (by decide +kernel) (pa_cons (pv 15) pa_nil))) pa_nil)))))))
  (pss_one (ps_ret (pe_tup (pa_cons (pv 7) (pa_cons (pv 8) (pa_cons (pv 11) (pa_cons (pe_tup (pa_cons (pe_ix (k_ixL K) (pv 3) pe_int (fun _ _ => rfl)) pa_nil)) pa_nil))))))))) pss_nil)
  (pss_cons (ps_set (i := 4) sc_law_same_ins.nd rfl (.inl rfl) (pe_call (ok_law_draw T) (hr.mono (by decide)) (by rfl) (g__law_draw T) (f_law_draw T).kp (b_law_draw T) .nil pass0 (pa_cons (pv 0) (pa_cons (pe_callB (k_len K) (by rfl) (free_len T) (by decide +kernel) (pa_cons (pv 9) pa_nil)) pa_nil))))
  (pss_cons (ps_set (i := 5) sc_law_same_ins.nd rfl (.inl rfl) (pe_ix (k_ixT K) (pv 9) (pv 4) (fun _ _ => rfl)))
  (pss_cons (ps_if (pt_cmpR op_lt (pv 2) pe_int (nomark _)) (pss_one (ps_ret (pe_tup (pa_cons (pv 7) (pa_cons (pv 8) (pa_cons (pe_op (k_cat K) (pe_op (k_cat K) (pe_slice (k_slT K) (pv 9) po_none (po_some (pv 4))) (pe_tup (pa_cons (pe_op (k_cat K) (pe_op (k_cat K) (pe_slice (k_slT K) (pv 5) po_none (po_some pe_int)) (pe_tup (pa_cons (pe_call (ok_law_kind T) (hr.mono (by decide)) (by rfl) (g__law_kind T) (f_law_kind T).kp (b_law_kind T) .nil pass0 (pa_cons (pv 0) pa_nil)) pa_nil))) (pe_slice (k_slT K) (pv 5) (po_some pe_int) po_none)) pa_nil))) (pe_slice (k_slT K) (pv 9) (po_some (pe_op op_add (pv 4) pe_int)) po_none)) (pa_cons (pv 10) pa_nil))))))) pss_nil)
  (pss_cons (ps_if (pt_cmpR op_eq (pv 2) pe_int (nomark _)) (pss_cons (ps_set (i := 12) sc_law_same_ins.nd rfl (.inr rfl) (pe_op op_cat (pv 3) (pe_lc (own := [("_law_far_here", 18)]) rfl sc_law_same_ins.nd (k_pit K (pe_slice (k_slT K) (pv 9) po_none (po_some (pe_un un_neg pe_int)))) (blkOk_by (N := ["_law_deck_here", "_law_one", "_law_way", "_law_names", "_law_at_here", "_law_it", "_law_wide", "_law_ins", "_law_facts", "_law_body", "_law_outs", "_law_found", "_law_known", "_law_more", "_law_word", "_law_sides", "_law_name", "_law_kind_here", "_law_far_here", "_law_x"]) (sc := (defScope (top 108))) (by decide +kernel)) (fun _ _ _ _ _ => (pg_name (i := 18) sc_law_same_ins.nd rfl (.inl rfl) (hf := (.inr rfl)))) (fun _ _ _ _ _ => pts_nil) (fun _ _ _ _ _ => (pe_ix (k_ixT K) (pv 18) pe_int (fun _ _ => rfl))))))
  (pss_one (ps_ret (pe_tup (pa_cons (pv 7) (pa_cons (pv 8) (pa_cons (pe_slice (k_slT K) (pv 9) po_none (po_some (pe_un un_neg pe_int))) (pa_cons (pe_callTy (k_tuple K) (by rfl) (free_tuple T) (by decide +kernel) (pa_cons (pe_lc (own := [("_law_name", 16)]) rfl sc_law_same_ins.nd (k_pit K (pv 10)) (blkOk_by (N := ["_law_deck_here", "_law_one", "_law_way", "_law_names", "_law_at_here", "_law_it", "_law_wide", "_law_ins", "_law_facts", "_law_body", "_law_outs", "_law_found", "_law_known", "_law_more", "_law_word", "_law_sides", "_law_name", "_law_kind_here", "_law_far_here", "_law_x"]) (sc := (defScope (top 108))) (by decide +kernel)) (fun _ _ _ _ _ => (pg_name (i := 16) sc_law_same_ins.nd rfl (.inl rfl) (hf := (.inr rfl)))) (fun _ _ _ _ _ => pts_nil) (fun _ _ _ _ _ => (pe_ifExp (pt_cmpR (k_inS K) (pv 16) (pv 12) (by rfl)) (pv 16) (pe_ix (k_ixL K) (pv 3) pe_int (fun _ _ => rfl))))) pa_nil)) pa_nil)))))))) pss_nil)
  (pss_cons (ps_if (pt_cmpR op_eq (pv 2) pe_int (nomark _)) (pss_cons (ps_set (i := 12) sc_law_same_ins.nd rfl (.inr rfl) (pe_op op_cat (pv 3) (pe_lc (own := [("_law_far_here", 18)]) rfl sc_law_same_ins.nd (k_pit K (pv 9)) (blkOk_by (N := ["_law_deck_here", "_law_one", "_law_way", "_law_names", "_law_at_here", "_law_it", "_law_wide", "_law_ins", "_law_facts", "_law_body", "_law_outs", "_law_found", "_law_known", "_law_more", "_law_word", "_law_sides", "_law_name", "_law_kind_here", "_law_far_here", "_law_x"]) (sc := (defScope (top 108))) (by decide +kernel)) (fun _ _ _ _ _ => (pg_name (i := 18) sc_law_same_ins.nd rfl (.inl rfl) (hf := (.inr rfl)))) (fun _ _ _ _ _ => pts_nil) (fun _ _ _ _ _ => (pe_ix (k_ixT K) (pv 18) pe_int (fun _ _ => rfl))))))
  (pss_cons (ps_set (i := 13) sc_law_same_ins.nd rfl (.inl rfl) (pe_tup (pa_cons pe_str (pa_cons pe_str (pa_cons (pe_call (ok_law_kind T) (hr.mono (by decide)) (by rfl) (g__law_kind T) (f_law_kind T).kp (b_law_kind T) .nil pass0 (pa_cons (pv 0) pa_nil)) (pa_cons (pe_call (ok_law_pick T) (hr.mono (by decide)) (by rfl) (g__law_pick T) (f_law_pick T).kp (b_law_pick T) .nil pass0 (pa_cons (pv 0) (pa_cons (pv 12) pa_nil))) (pa_cons (pe_call (ok_law_pick T) (hr.mono (by decide)) (by rfl) (g__law_pick T) (f_law_pick T).kp (b_law_pick T) .nil pass0 (pa_cons (pv 0) (pa_cons (pv 12) pa_nil))) pa_nil)))))))
  (pss_one (ps_ret (pe_tup (pa_cons (pv 7) (pa_cons (pv 8) (pa_cons (pe_op (k_cat K) (pv 9) (pe_tup (pa_cons (pv 13) pa_nil))) (pa_cons (pv 10) pa_nil))))))))) pss_nil)
  (pss_cons (ps_if (PW.pt (pw_and (pt_cmpR op_eq (pv 2) pe_int (nomark _)) (pw_and1 (pt_cmpR op_ne (pe_ix (k_ixT K) (pv 5) pe_int (fun _ _ => rfl)) pe_str (nomark _))))) (pss_cons (ps_set (i := 14) sc_law_same_ins.nd rfl (.inl rfl) (pe_ifExp (pt_cmpR op_eq (pe_ix (k_ixT K) (pv 5) pe_int (fun _ _ => rfl)) pe_str (nomark _)) pe_str pe_str))
  (pss_one (ps_ret (pe_tup (pa_cons (pv 7) (pa_cons (pv 8) (pa_cons (pe_op (k_cat K) (pe_op (k_cat K) (pe_slice (k_slT K) (pv 9) po_none (po_some (pv 4))) (pe_tup (pa_cons (pe_op (k_cat K) (pe_tup (pa_cons (pv 14) pa_nil)) (pe_slice (k_slT K) (pv 5) (po_some pe_int) po_none)) pa_nil))) (pe_slice (k_slT K) (pv 9) (po_some (pe_op op_add (pv 4) pe_int)) po_none)) (pa_cons (pv 10) pa_nil)))))))) pss_nil)
  (pss_cons (ps_if (PW.pt (pw_and (pt_cmpR op_eq (pv 2) pe_int (nomark _)) (pw_and1 (pt_cmpR op_ne (pe_ix (k_ixT K) (pv 5) pe_int (fun _ _ => rfl)) pe_str (nomark _))))) (pss_one (ps_ret (pe_tup (pa_cons (pv 7) (pa_cons (pv 8) (pa_cons (pe_op (k_cat K) (pe_op (k_cat K) (pe_slice (k_slT K) (pv 9) po_none (po_some (pv 4))) (pe_tup (pa_cons (pe_op (k_cat K) (pe_slice (k_slT K) (pv 5) po_none (po_some pe_int)) (pe_tup (pa_cons (pe_ix (k_ixT K) (pv 5) pe_int (fun _ _ => rfl)) (pa_cons (pe_ix (k_ixT K) (pv 5) pe_int (fun _ _ => rfl)) pa_nil)))) pa_nil))) (pe_slice (k_slT K) (pv 9) (po_some (pe_op op_add (pv 4) pe_int)) po_none)) (pa_cons (pv 10) pa_nil))))))) pss_nil)
  (pss_cons (ps_set (i := 6) sc_law_same_ins.nd rfl (.inl rfl) (pe_callTy (k_tuple K) (by rfl) (free_tuple T) (by decide +kernel) (pa_cons (pe_lc (own := [("_law_far_here", 18)]) rfl sc_law_same_ins.nd (k_pit K (pv 9)) (blkOk_by (N := ["_law_deck_here", "_law_one", "_law_way", "_law_names", "_law_at_here", "_law_it", "_law_wide", "_law_ins", "_law_facts", "_law_body", "_law_outs", "_law_found", "_law_known", "_law_more", "_law_word", "_law_sides", "_law_name", "_law_kind_here", "_law_far_here", "_law_x"]) (sc := (defScope (top 108))) (by decide +kernel)) (fun _ _ _ _ _ => (pg_name (i := 18) sc_law_same_ins.nd rfl (.inl rfl) (hf := (.inr rfl)))) (fun _ _ _ _ _ => pts_nil) (fun _ _ _ _ _ => (pe_op (k_cat K) (pe_op (k_cat K) (pe_slice (k_slT K) (pv 18) po_none (po_some pe_int)) (pe_tup (pa_cons (pe_tup (pa_cons (pe_ix (k_ixT K) (pe_ix (k_ixT K) (pv 18) pe_int (fun _ _ => rfl)) pe_int (fun _ _ => rfl)) (pa_cons (pe_callB (call_min2 rfl) (by rfl) (free_min T) (by decide +kernel) (pa_cons pe_int (pa_cons (pe_op op_add (pe_ix (k_ixT K) (pe_ix (k_ixT K) (pv 18) pe_int (fun _ _ => rfl)) pe_int (fun _ _ => rfl)) (pe_call (ok_law_draw T) (hr.mono (by decide)) (by rfl) (g__law_draw T) (f_law_draw T).kp (b_law_draw T) .nil pass0 (pa_cons (pv 0) (pa_cons pe_int pa_nil)))) pa_nil))) pa_nil))) pa_nil))) (pe_slice (k_slT K) (pv 18) (po_some pe_int) po_none)))) pa_nil)))
  (pss_one (ps_ret (pe_tup (pa_cons (pv 7) (pa_cons (pv 8) (pa_cons (pv 6) (pa_cons (pv 10) pa_nil))))))))))))))))))), ?_⟩)
  · obtain ⟨d, c, u, p, rfl, _⟩ := h; rfl
  · obtain ⟨d, c, u, p, rfl, hD, ⟨a, x1, x2, x3, x4, rfl, hp⟩, sg, q⟩ := h
    have ok := sg.ok
    have i2 := ok.ins.in2
    have i1 := ok.ins.in1
    have bl := sg.bl
    have hp0 := hp
    obtain ⟨ai, us, rfl, iT, iL⟩ := hp.ins.den
    have ln := iL.length
    rw [List.length_map] at ln
    refine ⟨_, rfl, a, _, rfl, hp.tup, rfl, _, _, rfl, _, _, rfl, _, _, rfl, _, _, rfl, rfl, ?_⟩
    refine ⟨_, rfl, d, c, 8, rfl, hD, by decide, by decide, fun way H1 w0 w1 f1 => ?_⟩
    have p1 := hp.fr hD f1
    have iT1 := f1.ext hD _ _ iT
    have iL1 := iL.mono (f1.ext hD)
    refine ⟨_, rfl, ai, rfl, ⟨us, iT1⟩, fun D nD => lc_map (K := K) nD (n := p.ins.length) (G := fun Hh => SqT K Hh ai us) (Y := YAt us) (by rw [← ln]; exact walk_tup) (fun i => .s (p.ins.getD i ("", ⟨true, 0⟩)).1) (by omega) (fun Hh s => Same.ext s _ _ iT1) ?_ ?_⟩
    · rintro i x H2 H3 Q' hi s1 ⟨rfl, ex⟩ q'
      obtain ⟨r, er, dr⟩ := map_at1 (DenL.mono (Same.ext s1) iL1) ex
      obtain ⟨b, y, rfl, bT, dy⟩ := in_den dr
      refine g_pair bT ⟨rfl, _, rfl, q' _ _ (Same.refl _) ?_⟩
      show V.str _ = V.str _
      rw [List.getD_eq_getElem?_getD, er]; rfl
    intro H2 ys s2 eD dL
    have en : (List.range p.ins.length).map (fun i => Dt.s (p.ins.getD i ("", ⟨true, 0⟩)).1) = (p.ins.map (·.1)).map Dt.s := by
      rw [map_at p.ins ("", ⟨true, 0⟩) (fun r => Dt.s r.1), List.map_map]; rfl
    rw [en] at dL
    rw [dL.strs] at eD
    have f2 := f1.then s2
    have hD2 := f2.deck
    have p2 := p1.same s2
    have nD0 := fr_none f1 nD
    obtain ⟨Dd, Dc⟩ := deck_ne hD nD0
    obtain ⟨n0, hn0, en0⟩ : ∃ n0, n0 ∈ p.ins.map (·.1) ∧ ((p.ins.map (·.1)).map V.str)[0]? = some (.str n0) := by
      cases e : p.ins with
      | nil => rw [e] at i1; simp at i1
      | cons q l => exact ⟨q.1, by simp, rfl⟩
    have names_in : ∀ x, x ∈ p.ins.map (·.1) → (getL (insL p.ins) x).isSome = true := fun x h => insL_some h
    -- the end of each way
    have fin : ∀ (H8 : Hp) (t : Addr) (nb ov : V) (b' : List Stm) (os : List Str), Fr d c H2 H8 → SqT K H8 t [.ref ai, x2, nb, ov] → Den K H8 (bodyD b') nb → Den K H8 (.t (os.map Dt.s)) ov → BodyOk (insL p.ins) b' → b'.length ≤ 24 → 1 ≤ os.length → os.length ≤ 4 → (∀ x ∈ os, x ∈ knownS p.ins b') → Q (.ref t) H8 :=
      fun H8 t nb ov b' os f8 hT hnb hov bok bl o1 o2 o3 => by
        have p8 := p2.fr hD2 f8
        exact q (.ref t) ⟨p.ins, p.facts, b', os⟩ H8 (f2.trans f8) ⟨t, _, _, _, _, rfl, hT, p8.ins, p8.facts, hnb, hov⟩ ⟨ok.ins, ok.facts, bok, bl, o1, o2, fun x hx => known_get.mpr (o3 x hx)⟩ rfl rfl
    have outs_in : ∀ b', bodyNames b' = bodyNames p.body → ∀ x ∈ p.outs, x ∈ knownS p.ins b' := fun b' e x hx => by
      have := known_get.mp (ok.o3 x hx)
      unfold knownS at this ⊢
      unfold bodyNames at e
      rw [e]; exact this
    obtain ⟨ab, bs, rfl, bT0, bL0⟩ := id p2.body
    have lb := bL0.length
    rw [List.length_map] at lb
    refine ⟨_, rfl, rfl, _, rfl, lastB _ (fun z0 => iteT ?w0) (fun z0 => ⟨_, rfl, szl (show 0 ≤ 1000000 by decide), fun e ne => use_eqF (p2.body.mono (Same.ext (same_new ne))) (den_new (l := []) ne denL_nil) (body_fit ok) (fit_wd 59 []) (fun eq => ⟨true, rfl, iteT ?w1⟩) (fun nq => ⟨false, rfl, iteF ?rest⟩)⟩)⟩
    case rest =>
      have s3 := same_new (o := .tup []) ne
      have eD3 := s3 _ _ eD
      have hD3 := hD2.same s3
      have bT3 := Same.ext s3 _ _ bT0
      have f23 := Fr.of hD2 s3
      generalize upd H2 e (.tup []) = H3 at s3 eD3 hD3 bT3 f23 ⊢
      have hpos : 0 < p.body.length := by
        cases h : p.body with
        | nil => rw [h] at nq; exact absurd rfl nq
        | cons s l => exact Nat.succ_pos _
      refine ⟨_, rfl, _, rfl, ab, bs, rfl, .inr bT3, d, c, (bs.length : Int), rfl, hD3, by omega, by omega, fun kk H4 k0 k1 f4 => ?_⟩
      obtain ⟨k, rfl⟩ : ∃ k : Nat, kk = (k : Int) := ⟨kk.toNat, by omega⟩
      have hk : k < p.body.length := by omega
      have f24 := f23.trans f4
      have hD4 := f4.deck
      have bT4 := f24.ext (K := K) hD2 _ _ bT0
      have hb : Den K H2 (.t (p.body.map Stm.d)) (.ref ab) := p2.body
      have es : p.body[k]? = some p.body[k] := List.getElem?_eq_getElem hk
      obtain ⟨sv, esv, dsv⟩ := (bL0.mono (f24.ext (K := K) hD2)).get (i := k) (d := p.body[k].d) (by rw [List.getElem?_map, es]; rfl)
      have so := ok.body k _ es
      generalize hs : p.body[k] = s at es dsv so
      clear hs
      obtain ⟨as, y, m, rfl, sT, hy, hm⟩ := st_den dsv
      refine ⟨_, rfl, _, rfl, ab, bs, _, _, rfl, rfl, bT4, atI_nat esv, ?_⟩
      refine ⟨_, rfl, _, _, rfl, rfl, _, rfl, lastB _ (fun c1 => ?_) (fun c1 => ?_)⟩
      · -- another kind
        refine ⟨_, rfl, _, rfl, _, rfl, _, rfl, _, rfl, use_slHead (k := k) (hb.mono (f24.ext (K := K) hD2)) (by rw [List.length_map]; omega) fun cA HA sA hcA => ?_⟩
        refine ⟨_, rfl, _, rfl, use_slHead (k := 2) (dsv.mono (Same.ext sA)) (show 2 ≤ 5 by decide) fun cB HB sB hcB => ?_⟩
        have fB := (f24.then sA).then sB
        refine ⟨_, rfl, d, c, rfl, fB.deck, fun kd kv HC fC kok dk => ⟨szl (show 1 ≤ 1000000 by decide), fun t1 n1 => ?_⟩⟩
        have u1 := same_new (o := .tup [kv]) n1
        have xC := (fC.then u1).ext (K := K) fB.deck
        refine cat_den (hcB.mono xC) (den_tup1 n1 dk) (by simp) fun cE HE sE hcE => ?_
        have x4E := ((Fr.of hD4 (sA.trans sB)).trans ((fC.then u1).then sE)).ext (K := K) hD4
        refine ⟨_, rfl, _, rfl, use_slTail (k := 3) (dsv.mono x4E) (show 3 ≤ 5 by decide) fun cF HF sF hcF => ?_⟩
        refine cat_den (hcE.mono (Same.ext sF)) hcF (by simp) fun cG HG sG hcG => ⟨szl (show 1 ≤ 1000000 by decide), fun t2 n2 => ?_⟩
        have u2 := same_new (o := .tup [cG]) n2
        have hst : Den K HG (setK s kd).d cG := hcG
        have fZ := ((fC.then u1).then sE).then (sF.trans (sG.trans u2))
        have hcA2 := (hcA.mono (Same.ext sB)).mono (fZ.ext (K := K) fB.deck)
        refine cat_den hcA2 (den_tup1 n2 hst) (by simp; omega) fun cX HX sX hcX => ?_
        have fX := (fB.trans fZ).then sX
        have hbT := hb.mono (fX.ext (K := K) hD2)
        refine ⟨_, rfl, _, rfl, _, _, rfl, rfl, _, rfl, use_slTail (k := k + 1) hbT (by rw [List.length_map]; omega) fun cT HT sT hcT => ?_⟩
        refine cat_den (hcX.mono (Same.ext sT)) hcT (by simp; omega) fun cU HU sU hcU => ⟨_, rfl, szl (show 4 ≤ 1000000 by decide), fun t nt => ?_⟩
        have sV := same_new (o := .tup [.ref ai, x2, cU, x4]) nt
        have fV := fX.then (sT.trans (sU.trans sV))
        refine fin _ t cU x4 (putS p.body k (setK s kd)) p.outs fV (.inl (.inl upd_same)) ?_ ((p2.fr hD2 fV).outs) (putS_ok ok.body es rfl kok (fun z => z)) (by rw [putS_len hk]; omega) ok.o1 ok.o2 (outs_in _ (putS_names es rfl))
        have eB : bodyD (putS p.body k (setK s kd)) = .t (((p.body.map Stm.d).take k ++ [Stm.d (setK s kd)]) ++ (p.body.map Stm.d).drop (k + 1)) := by
          unfold bodyD putS
          rw [List.map_append, List.map_append, List.map_take, List.map_drop]; rfl
        rw [eB]
        exact hcU.mono (Same.ext sV)
      refine ⟨_, rfl, rfl, _, rfl, lastB _ (fun c2 => ?_) (fun c2 => ?_)⟩
      · -- the last one off
        refine ⟨_, rfl, _, rfl, _, rfl, _, rfl, use_slInit (hb.mono (f24.ext (K := K) hD2)) (by rw [List.length_map]; omega) fun cA HA sA hcA => ?_⟩
        have hcA1 : Den K HA (.t ((p.body.take (p.body.length - 1)).map Stm.d)) cA := by rw [List.map_take]; rw [List.length_map] at hcA; exact hcA
        obtain ⟨a1, ws, rfl, T1, L1⟩ := hcA1
        have lw := L1.length
        rw [List.length_map] at lw
        have fA := f24.then sA
        refine ⟨a1, rfl, ⟨ws, T1⟩, fun D3 nD3 => lc_map (K := K) nD3 (n := (p.body.take (p.body.length - 1)).length) (G := fun Hh => SqT K Hh a1 ws) (Y := YAt ws) (by rw [← lw]; exact walk_tup) (fun i => .s ((bodyNames (p.body.take (p.body.length - 1))).getD i "")) (by rw [List.length_take]; omega) (fun Hh s => Same.ext s _ _ T1) ?_ ?_⟩
        · rintro i x H8 H9 Q' hi s8 ⟨rfl, ex⟩ q'
          obtain ⟨s', es', ds'⟩ := map_at1 (L1.mono (Same.ext s8)) ex
          obtain ⟨ap, _, _, rfl, pT, _, _⟩ := st_den ds'
          refine ⟨rfl, _, rfl, ap, _, _, _, rfl, rfl, pT, rfl, q' _ _ (Same.refl _) ?_⟩
          show V.str _ = V.str _
          unfold bodyNames
          rw [List.getD_eq_getElem?_getD, List.getElem?_map, es']; rfl
        intro H8 zs s8 eD8 dL8
        have e8 : (List.range (p.body.take (p.body.length - 1)).length).map (fun i => Dt.s ((bodyNames (p.body.take (p.body.length - 1))).getD i "")) = (bodyNames (p.body.take (p.body.length - 1))).map Dt.s := by
          have := map_at (bodyNames (p.body.take (p.body.length - 1))) "" (fun x => Dt.s x)
          rw [← this]
          unfold bodyNames
          rw [List.length_map]
        rw [e8] at dL8
        rw [dL8.strs] at eD8
        have f8 := fA.then s8
        have eDn := fr_lst f8 hD2 eD Dc
        refine ⟨D, D3, _, _, rfl, rfl, eDn, eD8, szl (by unfold bodyNames; simp; omega), fun l4 nl4 => ?_⟩
        rw [← List.map_append]
        have el4 : upd H8 l4 (.lst (((p.ins.map (·.1)) ++ bodyNames (p.body.take (p.body.length - 1))).map V.str)) l4 = some (.lst ((knownS p.ins (p.body.take (p.body.length - 1))).map V.str)) := upd_same
        have s9 := same_new (o := .lst (((p.ins.map (·.1)) ++ bodyNames (p.body.take (p.body.length - 1))).map V.str)) nl4
        generalize upd H8 l4 (.lst (((p.ins.map (·.1)) ++ bodyNames (p.body.take (p.body.length - 1))).map V.str)) = H9 at el4 s9 ⊢
        have f9 := f8.then s9
        refine ⟨_, rfl, _, rfl, _, rfl, _, rfl, _, rfl, use_slInit (hb.mono (f9.ext (K := K) hD2)) (by rw [List.length_map]; omega) fun cB HB sB hcB => ?_⟩
        have hcB1 : Den K HB (bodyD (p.body.take (p.body.length - 1))) cB := by unfold bodyD; rw [List.map_take]; rw [List.length_map] at hcB; exact hcB
        have fB := f9.then sB
        obtain ⟨ao, os, e0, oT, oL⟩ := (p2.fr hD2 fB).outs
        have lo := oL.length
        rw [List.length_map] at lo
        have oz := ok.o2
        have eo := oL.strs
        have el5 := sB _ _ el4
        have eD5 := fr_lst fB hD2 eD Dc
        subst e0
        refine ⟨_, rfl, ao, rfl, ⟨os, oT⟩, fun D5 nD5 => lc_map (K := K) nD5 (n := p.outs.length) (G := fun Hh => SqT K Hh ao os) (Y := YAt os) (by rw [← lo]; exact walk_tup) (fun i => .s (if p.outs.getD i "" ∈ knownS p.ins (p.body.take (p.body.length - 1)) then p.outs.getD i "" else n0)) (by omega) (fun Hh s => Same.ext s _ _ oT) ?_ ?_⟩
        · rintro i x H10 H11 Q' hi s10 ⟨rfl, ex⟩ q'
          have ex2 : x = .str (p.outs.getD i "") := by
            rw [eo, List.getElem?_map, List.getElem?_eq_getElem hi] at ex
            rw [List.getD_eq_getElem?_getD, List.getElem?_eq_getElem hi]
            exact (Option.some.inj ex).symm
          subst ex2
          refine ⟨rfl, _, rfl, _, rfl, l4, _, rfl, .inl (SqL.of (s10 _ _ el5)), rfl, by rw [List.all_map]; simp [flatV], _, rfl, ?_⟩
          rw [if_neg (by decide), inV_strs]
          refine lastB _ (fun c1 => ?_) (fun c1 => ?_)
          · refine ⟨_, rfl, q' _ _ (Same.refl _) ?_⟩
            rw [if_pos (of_decide_eq_true c1)]; rfl
          · refine ⟨_, rfl, D, _, _, _, rfl, rfl, SqL.of (s10 _ _ eD5), atI_nat (j := 0) en0, q' _ _ (Same.refl _) ?_⟩
            rw [if_neg (of_decide_eq_false c1)]; rfl
        · intro H10 qs s10 eD10 dL10
          have e10 : (List.range p.outs.length).map (fun i => Dt.s (if p.outs.getD i "" ∈ knownS p.ins (p.body.take (p.body.length - 1)) then p.outs.getD i "" else n0)) = (p.outs.map fun x => if x ∈ knownS p.ins (p.body.take (p.body.length - 1)) then x else n0).map Dt.s := by
            rw [map_at p.outs "" (fun x => Dt.s (if x ∈ knownS p.ins (p.body.take (p.body.length - 1)) then x else n0)), List.map_map]; rfl
          rw [e10] at dL10
          refine ⟨D5, _, rfl, .inl ⟨SqL.of eD10, fun lt nlt => ⟨szl (show 4 ≤ 1000000 by decide), fun t nt => ?_⟩⟩⟩
          have u1 := same_new (o := .tup qs) nlt
          have u2 := same_new (o := .tup [.ref ai, x2, cB, .ref lt]) nt
          refine fin _ t cB (.ref lt) (p.body.take (p.body.length - 1)) _ (fB.then (s10.trans (u1.trans u2))) (.inl (.inl upd_same)) (hcB1.mono (Same.ext (s10.trans (u1.trans u2)))) ((den_new nlt dL10).mono (Same.ext u2)) (body_take ok.body _) (by rw [List.length_take]; omega) (by rw [List.length_map]; exact ok.o1) (by rw [List.length_map]; exact ok.o2) (fun x hx => ?_)
          obtain ⟨z, _, ez⟩ := List.mem_map.mp hx
          rw [← ez]
          split
          · assumption
          · exact List.mem_append_left _ hn0
      refine ⟨_, rfl, rfl, _, rfl, lastB _ (fun c3 => ?_) (fun c3 => ?_)⟩
      · -- one more
        have fr4b := bT4
        refine ⟨_, rfl, _, rfl, ab, rfl, ⟨bs, bT4⟩, fun D3 nD3 => lc_map (K := K) nD3 (n := p.body.length) (G := fun Hh => SqT K Hh ab bs) (Y := YAt bs) (by rw [← lb]; exact walk_tup) (fun i => .s ((bodyNames p.body).getD i "")) (by omega) (fun Hh s => Same.ext s _ _ bT4) ?_ ?_⟩
        · rintro i x H8 H9 Q' hi s8 ⟨rfl, ex⟩ q'
          obtain ⟨s', es', ds'⟩ := map_at1 ((bL0.mono (f24.ext (K := K) hD2)).mono (Same.ext s8)) ex
          obtain ⟨ap, _, _, rfl, pT, _, _⟩ := st_den ds'
          refine ⟨rfl, _, rfl, ap, _, _, _, rfl, rfl, pT, rfl, q' _ _ (Same.refl _) ?_⟩
          show V.str _ = V.str _
          unfold bodyNames
          rw [List.getD_eq_getElem?_getD, List.getElem?_map, es']; rfl
        intro H8 zs s8 eD8 dL8
        have e8 : (List.range p.body.length).map (fun i => Dt.s ((bodyNames p.body).getD i "")) = (bodyNames p.body).map Dt.s := by
          have := map_at (bodyNames p.body) "" (fun x => Dt.s x)
          rw [← this]
          unfold bodyNames
          rw [List.length_map]
        rw [e8] at dL8
        rw [dL8.strs] at eD8
        have f8 := f24.then s8
        have eDn := fr_lst f8 hD2 eD Dc
        refine ⟨D, D3, _, _, rfl, rfl, eDn, eD8, szl (by unfold bodyNames; simp; omega), fun l4 nl4 => ?_⟩
        rw [← List.map_append]
        obtain ⟨_, l4c⟩ := deck_ne f8.deck nl4
        have el4 : upd H8 l4 (.lst (((p.ins.map (·.1)) ++ bodyNames p.body).map V.str)) l4 = some (.lst ((knownS p.ins p.body).map V.str)) := upd_same
        have s9 := same_new (o := .lst (((p.ins.map (·.1)) ++ bodyNames p.body).map V.str)) nl4
        generalize upd H8 l4 (.lst (((p.ins.map (·.1)) ++ bodyNames p.body).map V.str)) = H9 at el4 s9 ⊢
        have f9 := f8.then s9
        have kl : (knownS p.ins p.body).length = p.ins.length + p.body.length := by unfold knownS; rw [List.length_append, List.length_map, List.length_map]
        refine ⟨_, rfl, d, c, rfl, f9.deck, fun kd kv HC fC kok dk => ?_⟩
        have el5 := fr_lst fC f9.deck el4 l4c
        refine ⟨_, rfl, _, rfl, d, c, l4, _, rfl, fC.deck, el5, l4c, by rw [List.length_map]; omega, by rw [List.length_map]; omega, fun i1 w1 HE ew1 fE => ?_⟩
        obtain ⟨one, m1, rfl⟩ := str_mem (List.mem_of_getElem? ew1)
        have el6 := fr_lst fE fC.deck el5 l4c
        refine ⟨_, rfl, _, rfl, d, c, l4, _, rfl, fE.deck, el6, l4c, by rw [List.length_map]; omega, by rw [List.length_map]; omega, fun i2 w2 HF ew2 fF => ?_⟩
        obtain ⟨oth, m2, rfl⟩ := str_mem (List.mem_of_getElem? ew2)
        refine ⟨szl (show 5 ≤ 1000000 by decide), fun t5 n5 => ?_⟩
        have fEF := fE.trans fF
        have ds5 := st_new (K := K) (s := ⟨.plus, "more", kd, 0, one, oth⟩) (kv := kv) (m := .str one) n5 (dk.mono (fEF.ext fC.deck)) rfl
        have u5 := same_new (o := .tup [.str "plus", .str "more", kv, .str one, .str oth]) n5
        refine ⟨_, rfl, _, rfl, _, rfl, _, rfl, szl (show 1 ≤ 1000000 by decide), fun t1 n1 => ?_⟩
        have u6 := same_new (o := .tup [.ref t5]) n1
        have fZ := (f9.trans (fC.trans fEF)).then (u5.trans u6)
        refine cat_den (hb.mono (fZ.ext (K := K) hD2)) (den_tup1 n1 ds5) (by simp; omega) fun cX HX sX hcX => ⟨_, rfl, szl (show 4 ≤ 1000000 by decide), fun t nt => ?_⟩
        have u7 := same_new (o := .tup [.ref ai, x2, cX, x4]) nt
        have fV := fZ.then (sX.trans u7)
        have newn : ¬ ("more" : Str) ∈ knownS p.ins p.body := fun z => by
          rcases List.mem_append.mp z with z | z
          · obtain ⟨q, hq, e⟩ := List.mem_map.mp z
            have := sg.nm q hq
            rw [e] at this
            exact absurd this (by decide +kernel)
          · obtain ⟨u, hu, e⟩ := List.mem_map.mp z
            obtain ⟨j, hj⟩ := List.mem_iff_getElem?.mp hu
            have hj2 := (List.getElem?_eq_some_iff.mp hj).1
            exact (letN_props (i := j) (by omega)).2.2.2 (by rw [← sg.lt j u hj]; exact e)
        refine fin _ t cX x4 (p.body ++ [⟨.plus, "more", kd, 0, one, oth⟩]) p.outs fV (.inl (.inl upd_same)) ?_ ((p2.fr hD2 fV).outs) (body_snoc ok.body ⟨(show okName "more" = true by decide +kernel), kok, known_no newn, fun h => absurd h (show ¬ Op.plus = Op.times by decide), fun _ => known_get.mpr m1, known_get.mpr m2⟩) (by rw [List.length_append]; simp only [List.length_singleton]; omega) ok.o1 ok.o2 (fun x hx => ?_)
        · unfold bodyD
          rw [List.map_append]
          exact hcX.mono (Same.ext u7)
        · have := known_get.mp (ok.o3 x hx)
          unfold knownS at this ⊢
          rw [List.map_append, ← List.append_assoc]
          exact List.mem_append_left _ this
      refine (fun nxt => ⟨_, rfl, rfl, _, rfl, lastB _ (fun c5 => ⟨_, rfl, as, _, _, _, rfl, rfl, sT, rfl, rfl, _, rfl, lastB _ (fun c6 => ?dd) (fun c6 => nxt)⟩) (fun c5 => iteF nxt)⟩) ?nn
      case dd => -- a sum for a difference
        have ntm : s.op ≠ .times := fun z => by rw [z] at c6; exact absurd c6 (by decide)
        cases h : s.op with
        | times => exact absurd h ntm
        | plus =>
          refine ⟨_, rfl, as, _, _, _, rfl, rfl, sT, rfl, rfl, true, by rw [h]; rfl, iteT ?_⟩
          refine ⟨_, rfl, _, rfl, _, rfl, _, rfl, _, rfl, use_slHead (k := k) (hb.mono (f24.ext (K := K) hD2)) (by rw [List.length_map]; omega) fun cA HA sA hcA => ⟨_, rfl, szl (show 1 ≤ 1000000 by decide), fun t1 n1 => ?_⟩⟩
          have u1 := same_new (o := .tup [.str "minus"]) n1
          refine ⟨_, rfl, _, rfl, use_slTail (k := 1) (dsv.mono (Same.ext (sA.trans u1))) (show 1 ≤ 5 by decide) fun cB HB sB hcB => ?_⟩
          refine cat_den ((den_tup1 (d := .s "minus") n1 rfl).mono (Same.ext sB)) hcB (by simp) fun cG HG sG hcG => ⟨szl (show 1 ≤ 1000000 by decide), fun t2 n2 => ?_⟩
          have u2 := same_new (o := .tup [cG]) n2
          have hst : Den K HG (⟨.minus, s.name, s.kd, s.fac, s.one, s.other⟩ : Stm).d cG := by
            have : (⟨.minus, s.name, s.kd, s.fac, s.one, s.other⟩ : Stm).d = .t ([.s "minus"] ++ [.s s.name, s.kd.d, s.mid, .s s.other]) := by
              unfold Stm.d Stm.mid
              rw [if_neg (show ¬ s.op = .times from ntm)]; rfl
            rw [this]; exact hcG
          have fZ := u1.trans (sB.trans (sG.trans u2))
          refine cat_den (hcA.mono (Same.ext fZ)) (den_tup1 n2 hst) (by simp; omega) fun cX HX sX hcX => ?_
          have fX := (f24.then sA).then (fZ.trans sX)
          have hbT := hb.mono (fX.ext (K := K) hD2)
          refine ⟨_, rfl, _, rfl, _, _, rfl, rfl, _, rfl, use_slTail (k := k + 1) hbT (by rw [List.length_map]; omega) fun cT HT sT hcT => ?_⟩
          refine cat_den (hcX.mono (Same.ext sT)) hcT (by simp; omega) fun cU HU sU hcU => ⟨_, rfl, szl (show 4 ≤ 1000000 by decide), fun t nt => ?_⟩
          have sV := same_new (o := .tup [.ref ai, x2, cU, x4]) nt
          have fV := fX.then (sT.trans (sU.trans sV))
          refine fin _ t cU x4 (putS p.body k ⟨.minus, s.name, s.kd, s.fac, s.one, s.other⟩) p.outs fV (.inl (.inl upd_same)) ?_ ((p2.fr hD2 fV).outs) (putS_ok ok.body es rfl so.kd (fun z => ⟨fun h => absurd h (show ¬ Op.minus = Op.times by decide), fun _ => z.2.1 ntm, z.2.2⟩)) (by rw [putS_len hk]; omega) ok.o1 ok.o2 (outs_in _ (putS_names es rfl))
          have eB : bodyD (putS p.body k ⟨.minus, s.name, s.kd, s.fac, s.one, s.other⟩) = .t (((p.body.map Stm.d).take k ++ [Stm.d ⟨.minus, s.name, s.kd, s.fac, s.one, s.other⟩]) ++ (p.body.map Stm.d).drop (k + 1)) := by
            unfold bodyD putS
            rw [List.map_append, List.map_append, List.map_take, List.map_drop]; rfl
          rw [eB]
          exact hcU.mono (Same.ext sV)
        | minus =>
          refine ⟨_, rfl, as, _, _, _, rfl, rfl, sT, rfl, rfl, false, by rw [h]; rfl, iteF ?_⟩
          refine ⟨_, rfl, _, rfl, _, rfl, _, rfl, _, rfl, use_slHead (k := k) (hb.mono (f24.ext (K := K) hD2)) (by rw [List.length_map]; omega) fun cA HA sA hcA => ⟨_, rfl, szl (show 1 ≤ 1000000 by decide), fun t1 n1 => ?_⟩⟩
          have u1 := same_new (o := .tup [.str "plus"]) n1
          refine ⟨_, rfl, _, rfl, use_slTail (k := 1) (dsv.mono (Same.ext (sA.trans u1))) (show 1 ≤ 5 by decide) fun cB HB sB hcB => ?_⟩
          refine cat_den ((den_tup1 (d := .s "plus") n1 rfl).mono (Same.ext sB)) hcB (by simp) fun cG HG sG hcG => ⟨szl (show 1 ≤ 1000000 by decide), fun t2 n2 => ?_⟩
          have u2 := same_new (o := .tup [cG]) n2
          have hst : Den K HG (⟨.plus, s.name, s.kd, s.fac, s.one, s.other⟩ : Stm).d cG := by
            have : (⟨.plus, s.name, s.kd, s.fac, s.one, s.other⟩ : Stm).d = .t ([.s "plus"] ++ [.s s.name, s.kd.d, s.mid, .s s.other]) := by
              unfold Stm.d Stm.mid
              rw [if_neg (show ¬ s.op = .times from ntm)]; rfl
            rw [this]; exact hcG
          have fZ := u1.trans (sB.trans (sG.trans u2))
          refine cat_den (hcA.mono (Same.ext fZ)) (den_tup1 n2 hst) (by simp; omega) fun cX HX sX hcX => ?_
          have fX := (f24.then sA).then (fZ.trans sX)
          have hbT := hb.mono (fX.ext (K := K) hD2)
          refine ⟨_, rfl, _, rfl, _, _, rfl, rfl, _, rfl, use_slTail (k := k + 1) hbT (by rw [List.length_map]; omega) fun cT HT sT hcT => ?_⟩
          refine cat_den (hcX.mono (Same.ext sT)) hcT (by simp; omega) fun cU HU sU hcU => ⟨_, rfl, szl (show 4 ≤ 1000000 by decide), fun t nt => ?_⟩
          have sV := same_new (o := .tup [.ref ai, x2, cU, x4]) nt
          have fV := fX.then (sT.trans (sU.trans sV))
          refine fin _ t cU x4 (putS p.body k ⟨.plus, s.name, s.kd, s.fac, s.one, s.other⟩) p.outs fV (.inl (.inl upd_same)) ?_ ((p2.fr hD2 fV).outs) (putS_ok ok.body es rfl so.kd (fun z => ⟨fun h => absurd h (show ¬ Op.plus = Op.times by decide), fun _ => z.2.1 ntm, z.2.2⟩)) (by rw [putS_len hk]; omega) ok.o1 ok.o2 (outs_in _ (putS_names es rfl))
          have eB : bodyD (putS p.body k ⟨.plus, s.name, s.kd, s.fac, s.one, s.other⟩) = .t (((p.body.map Stm.d).take k ++ [Stm.d ⟨.plus, s.name, s.kd, s.fac, s.one, s.other⟩]) ++ (p.body.map Stm.d).drop (k + 1)) := by
            unfold bodyD putS
            rw [List.map_append, List.map_append, List.map_take, List.map_drop]; rfl
          rw [eB]
          exact hcU.mono (Same.ext sV)
      refine (fun nxt => ⟨_, rfl, rfl, _, rfl, lastB _ (fun c7 => ⟨_, rfl, as, _, _, _, rfl, rfl, sT, rfl, rfl, _, rfl, lastB _ (fun c8 => ?ee) (fun c8 => nxt)⟩) (fun c7 => iteF nxt)⟩) ?mm
      case ee => -- sides exchanged
        have ntm : s.op ≠ .times := fun z => by rw [z] at c8; exact absurd c8 (by decide)
        obtain rfl := mid_str hm ntm
        refine ⟨_, rfl, _, rfl, _, rfl, _, rfl, _, rfl, use_slHead (k := k) (hb.mono (f24.ext (K := K) hD2)) (by rw [List.length_map]; omega) fun cA HA sA hcA => ?_⟩
        refine ⟨_, rfl, _, rfl, use_slHead (k := 3) (dsv.mono (Same.ext sA)) (show 3 ≤ 5 by decide) fun cB HB sB hcB => ?_⟩
        have sT2 := Same.ext (sA.trans sB) _ _ sT
        refine ⟨_, rfl, as, _, _, _, rfl, rfl, sT2, rfl, _, rfl, as, _, _, _, rfl, rfl, sT2, rfl, szl (show 2 ≤ 1000000 by decide), fun t1 n1 => ?_⟩
        have u1 := same_new (o := .tup [.str s.other, .str s.one]) n1
        refine cat_den (hcB.mono (Same.ext u1)) (den_new (l := [.s s.other, .s s.one]) n1 (denL_cons rfl (denL_cons rfl denL_nil))) (by simp) fun cG HG sG hcG => ⟨szl (show 1 ≤ 1000000 by decide), fun t2 n2 => ?_⟩
        have u2 := same_new (o := .tup [cG]) n2
        have hst : Den K HG (⟨s.op, s.name, s.kd, s.fac, s.other, s.one⟩ : Stm).d cG := by
          have : (⟨s.op, s.name, s.kd, s.fac, s.other, s.one⟩ : Stm).d = .t ([.s s.op.str, .s s.name, s.kd.d] ++ [.s s.other, .s s.one]) := by
            unfold Stm.d Stm.mid
            rw [if_neg ntm]; rfl
          rw [this]; exact hcG
        have fZ := sB.trans (u1.trans (sG.trans u2))
        refine cat_den (hcA.mono (Same.ext fZ)) (den_tup1 n2 hst) (by simp; omega) fun cX HX sX hcX => ?_
        have fX := (f24.then sA).then (fZ.trans sX)
        have hbT := hb.mono (fX.ext (K := K) hD2)
        refine ⟨_, rfl, _, rfl, _, _, rfl, rfl, _, rfl, use_slTail (k := k + 1) hbT (by rw [List.length_map]; omega) fun cT HT sT hcT => ?_⟩
        refine cat_den (hcX.mono (Same.ext sT)) hcT (by simp; omega) fun cU HU sU hcU => ⟨_, rfl, szl (show 4 ≤ 1000000 by decide), fun t nt => ?_⟩
        have sV := same_new (o := .tup [.ref ai, x2, cU, x4]) nt
        have fV := fX.then (sT.trans (sU.trans sV))
        refine fin _ t cU x4 (putS p.body k ⟨s.op, s.name, s.kd, s.fac, s.other, s.one⟩) p.outs fV (.inl (.inl upd_same)) ?_ ((p2.fr hD2 fV).outs) (putS_ok ok.body es rfl so.kd (fun z => ⟨z.1, fun h => z.2.2, z.2.1 ntm⟩)) (by rw [putS_len hk]; omega) ok.o1 ok.o2 (outs_in _ (putS_names es rfl))
        have eB : bodyD (putS p.body k ⟨s.op, s.name, s.kd, s.fac, s.other, s.one⟩) = .t (((p.body.map Stm.d).take k ++ [Stm.d ⟨s.op, s.name, s.kd, s.fac, s.other, s.one⟩]) ++ (p.body.map Stm.d).drop (k + 1)) := by
          unfold bodyD putS
          rw [List.map_append, List.map_append, List.map_take, List.map_drop]; rfl
        rw [eB]
        exact hcU.mono (Same.ext sV)
      -- wider kinds
      refine ⟨_, rfl, ab, rfl, ⟨bs, bT4⟩, fun D3 nD3 => ?_⟩
      have fD3 := Fr.of hD4 (same_new (o := .lst []) nD3)
      obtain ⟨_, D3c⟩ := deck_ne hD4 nD3
      refine lc_it (n := bs.length) (walk_tup (K := K) (a := ab) (xs := bs)) (fun i H' => Fr d c H4 H' ∧ ∃ (vs : List V) (b2 : List Stm), H' D3 = some (.lst vs) ∧ DenL K H' (b2.map Stm.d) vs ∧ b2.length = i ∧ ∀ j s, j < i → p.body[j]? = some s → ∃ k : Kd, k.ok = true ∧ b2[j]? = some (setK s k)) ⟨fD3, [], [], upd_same, rfl, rfl, fun j s hj => absurd hj (Nat.not_lt_zero _)⟩ (fun i H' _ h => h.1.ext (K := K) hD4 _ _ bT4) ?_ ?_
      · rintro i x H5 H6 hi ⟨f5, vs, b2, ev, dv, lb2, hb2⟩ ⟨rfl, ex⟩
        have f25 := f24.trans f5
        obtain ⟨s', es', ds'⟩ := map_at1 (bL0.mono (f25.ext (K := K) hD2)) ex
        have so' := ok.body i s' es'
        obtain ⟨ap, yk, m', rfl, pT, hyk, hm'⟩ := st_den ds'
        obtain ⟨ak, rfl, kT⟩ := kd_den hyk
        have hk1 : 1 ≤ s'.kd.k ∧ s'.kd.k ≤ 30 := of_decide_eq_true so'.kd
        refine ⟨rfl, _, rfl, _, rfl, use_slHead (k := 2) ds' (show 2 ≤ 5 by decide) fun cA HA sA hcA => ?_⟩
        have xA := Same.ext (K := K) sA
        refine ⟨_, rfl, ap, _, _, _, rfl, rfl, xA _ _ pT, rfl, ak, _, _, _, rfl, rfl, xA _ _ kT, rfl, _, rfl, ap, _, _, _, rfl, rfl, xA _ _ pT, rfl, ak, _, _, _, rfl, rfl, xA _ _ kT, rfl, ?_⟩
        have fA := f5.then sA
        refine ⟨_, rfl, d, c, 2, rfl, fA.deck, by decide, by decide, fun r HB r0 r1 fB => ⟨_, _, rfl, rfl, _, _, rfl, szl (show 2 ≤ 1000000 by decide), fun t2 n2 => ⟨szl (show 1 ≤ 1000000 by decide), fun t1 n1 => ?_⟩⟩⟩
        obtain ⟨kn, ekn, kn1, kn2⟩ : ∃ kn : Nat, (if (s'.kd.k : Int) + r < 30 then (s'.kd.k : Int) + r else 30) = (kn : Int) ∧ 1 ≤ kn ∧ kn ≤ 30 := by
          by_cases h : (s'.kd.k : Int) + r < 30
          · exact ⟨((s'.kd.k : Int) + r).toNat, by rw [if_pos h]; omega, by omega, by omega⟩
          · exact ⟨30, if_neg h, by decide, by decide⟩
        rw [ekn] at n1 ⊢
        have dk := den_kd (K := K) (bo := s'.kd.both) (k := kn) n2
        have u2 := same_new (o := .tup [.str (if s'.kd.both then "both" else "up"), .int (kn : Int)]) n2
        have u1 := same_new (o := .tup [.ref t2]) n1
        have fZ := (fB.then u2).then u1
        refine cat_den (hcA.mono (fZ.ext (K := K) fA.deck)) (den_tup1 n1 dk) (by simp) fun cE HE sE hcE => ?_
        have fE := fZ.then sE
        have f5E := ((Fr.of f5.deck sA).trans fE)
        refine ⟨_, rfl, _, rfl, use_slTail (k := 3) (ds'.mono (f5E.ext (K := K) f5.deck)) (show 3 ≤ 5 by decide) fun cF HF sF hcF => ?_⟩
        refine cat_den (hcE.mono (Same.ext sF)) hcF (by simp) fun cG HG sG hcG => ?_
        have hst : Den K HG (setK s' ⟨s'.kd.both, kn⟩).d cG := hcG
        have f5G := f5E.then (sF.trans sG)
        have ev2 := fr_lst f5G f5.deck ev D3c
        have dv2 := dv.mono (f5G.ext (K := K) f5.deck)
        have lv := dv2.length
        rw [List.length_map] at lv
        have xw : ExT K HG (upd HG D3 (.lst (vs ++ [cG]))) := ext_upd ev2 rfl
        refine ⟨vs, ev2, szlt (by omega), fr_upd hD4 (f5.trans f5G) nD3, vs ++ [cG], b2 ++ [setK s' ⟨s'.kd.both, kn⟩], upd_same, ?_, by rw [List.length_append, lb2]; rfl, fun j s'' hj e'' => ?_⟩
        · rw [List.map_append]
          exact denL_snoc (dv2.mono xw) (hst.mono xw)
        · by_cases hj2 : j < i
          · obtain ⟨k2, h1, h2⟩ := hb2 j s'' hj2 e''
            exact ⟨k2, h1, by rw [List.getElem?_append_left (by omega)]; exact h2⟩
          · obtain rfl : j = i := by omega
            rw [es'] at e''
            cases Option.some.inj e''
            exact ⟨⟨s'.kd.both, kn⟩, decide_eq_true ⟨kn1, kn2⟩, by rw [List.getElem?_append_right (by omega), lb2, Nat.sub_self]; rfl⟩
      · rintro H5 ⟨f5, vs, b2, ev, dv, lb2, hb2⟩
        refine ⟨D3, _, rfl, .inl ⟨SqL.of ev, fun lt nlt => ⟨_, rfl, _, rfl, _, rfl, _, rfl, szl (show 4 ≤ 1000000 by decide), fun t nt => ?_⟩⟩⟩
        have u1 := same_new (o := .tup vs) nlt
        have u2 := same_new (o := .tup [.ref ai, x2, .ref lt, x4]) nt
        have fV := (f24.trans f5).then (u1.trans u2)
        rw [lb] at lb2 hb2
        have en2 : bodyNames b2 = bodyNames p.body := by
          refine List.ext_getElem? fun j => ?_
          unfold bodyNames
          rw [List.getElem?_map, List.getElem?_map]
          by_cases hj : j < p.body.length
          · obtain ⟨k2, _, h2⟩ := hb2 j _ hj (List.getElem?_eq_getElem hj)
            rw [h2, List.getElem?_eq_getElem hj]; rfl
          · rw [List.getElem?_eq_none (by omega), List.getElem?_eq_none (by omega)]
        refine fin _ t (.ref lt) x4 b2 p.outs fV (.inl (.inl upd_same)) ((den_new nlt dv).mono (Same.ext u2)) ((p2.fr hD2 fV).outs) (body_like ok.body en2 fun j s s' e1 e2 => ?_) (by omega) ok.o1 ok.o2 (outs_in _ en2)
        have hj := (List.getElem?_eq_some_iff.mp e1).1
        obtain ⟨k2, h1, h2⟩ := hb2 j s hj e1
        rw [h2] at e2
        cases Option.some.inj e2
        exact ⟨h1, (ok.body j s e1).right⟩
    case' w0 =>
      have sx0 : ∀ Hy, Hy = H2 → Same H2 Hy := fun _ e => by rw [e]; exact Same.refl _
      generalize hx : H2 = Hx
      have sx := sx0 Hx hx.symm
      clear hx
    case' w1 =>
      have sx := same_new (o := .tup []) ne
      generalize upd H2 e (.tup []) = Hx at sx ⊢
    all_goals
      refine ⟨szl (show 0 ≤ 1000000 by decide), fun t0 nt0 => ?_⟩
      have s3 := sx.trans (same_new (o := .tup []) nt0)
      have dB := den_new (K := K) (l := []) nt0 denL_nil
      generalize upd Hx t0 (.tup []) = H3 at s3 dB ⊢
      have hD3 := hD2.same s3
      refine ⟨_, rfl, d, c, 4, 1, rfl, hD3, by decide, by decide, by decide, fun v r H4 f4 hr4 sr => ?_⟩
      obtain ⟨ra, y1, y2, y3, y4, rfl, rp⟩ := hr4
      obtain ⟨rb, rbs, rfl, bT, bL⟩ := id rp.body
      have lb := bL.length
      rw [List.length_map] at lb
      have rl := sr.bl
      have f24 := (Fr.of hD2 s3).trans f4
      refine ⟨ra, _, _, _, rfl, rfl, rp.tup, rfl, rb, rfl, ⟨rbs, bT⟩, ?_⟩
      refine for_it (walk_tup (K := K) (a := rb) (xs := rbs)) (fun i σ H' => (∃ o4 o5 o6 o12 o13 o14 o15 o16 o17 o18 o19 fv, σ = [some (.ref d), some (.ref a), some (.int way), some (.ref D), o4, o5, o6, some (.ref ai), some x2, some (.ref ab), some x4, some fv, o12, o13, o14, o15, o16, o17, o18, o19] ∧ Den K H' (bodyD ((r.body.take i).map (subS n0))) fv) ∧ Same H4 H')
        ⟨⟨_, _, _, _, _, _, _, _, _, _, _, _, rfl, dB.mono (f4.ext hD3)⟩, Same.refl _⟩ (fun i σ H' _ h => Same.ext h.2 _ _ bT) ?_ ?_
      · rintro i x σ H5 H6 hi ⟨⟨o4, o5, o6, o12, o13, o14, o15, o16, o17, o18, o19, fv, rfl, hfv⟩, s5⟩ ⟨rfl, ex⟩
        obtain ⟨s, es, ds⟩ := map_at1 (DenL.mono (Same.ext s5) bL) ex
        have hi2 : i < r.body.length := (List.getElem?_eq_some_iff.mp es).1
        refine ⟨_, rfl, _, rfl, use_slTail (k := 3) ds (show 3 ≤ 5 by decide) fun c1 H7 s7 hc1 => ?_⟩
        obtain ⟨c1, ws, rfl, cT, cL⟩ := hc1
        have cL2 : DenL K H7 [s.mid, .s s.other] ws := cL
        have lw := cL2.length
        have hD7 := (f24.then (s5.trans s7))
        have eD7 := fr_lst hD7 hD2 eD Dc
        refine ⟨c1, rfl, ⟨ws, cT⟩, fun D3 nD3 => lc_map (K := K) nD3 (n := 2) (G := fun Hh => SqT K Hh c1 ws) (Y := YAt ws) (by rw [show 2 = ws.length from lw.symm]; exact walk_tup) (fun i => subD n0 ([s.mid, .s s.other].getD i .n)) (by decide) (fun Hh s => Same.ext s _ _ cT) ?_ ?_⟩
        · rintro j x H8 H9 Q' hj s8 ⟨rfl, ex2⟩ q'
          obtain ⟨dt, edt, dx⟩ := (cL2.mono (Same.ext s8)).at ex2
          have ed : [s.mid, .s s.other].getD j .n = dt := by rw [List.getD_eq_getElem?_getD, edt]; rfl
          rw [ed] at q'
          have hdt : (∃ n, dt = .i n) ∨ ∃ z, dt = .s z := by
            match j, edt with
            | 0, edt =>
              have := Option.some.inj edt
              rw [← this]
              unfold Stm.mid
              split
              · exact .inl ⟨_, rfl⟩
              · exact .inr ⟨_, rfl⟩
            | 1, edt => exact .inr ⟨_, (Option.some.inj edt).symm⟩
          refine ⟨rfl, _, rfl, szl (show 6 ≤ 1000000 by decide), fun tt ntt => ?_⟩
          have s9 := same_new (o := .tup [.str "a", .str "b", .str "c", .str "x", .str "yy", .str "zero"]) ntt
          have eD9 := (s8.trans s9) _ _ eD7
          have tN : SqT K (upd H9 tt (.tup [.str "a", .str "b", .str "c", .str "x", .str "yy", .str "zero"])) tt (NAMES.map V.str) := .inl (.inl upd_same)
          rcases hdt with ⟨n, rfl⟩ | ⟨z, rfl⟩
          · obtain rfl : x = .int n := dx
            refine ⟨tt, NAMES.map V.str, rfl, .inr tN, rfl, by rw [List.all_map]; simp [flatV], _, rfl, ?_⟩
            rw [if_neg (by decide), inV_int]
            exact iteF ⟨_, rfl, q' _ _ s9 rfl⟩
          · obtain rfl : x = .str z := dx
            refine ⟨tt, NAMES.map V.str, rfl, .inr tN, rfl, by rw [List.all_map]; simp [flatV], _, rfl, ?_⟩
            rw [if_neg (by decide), inV_strs]
            refine lastB _ (fun c1 => ?_) (fun c1 => ?_)
            · refine ⟨_, rfl, D, _, _, _, rfl, rfl, SqL.of eD9, atI_nat (j := 0) en0, q' _ _ s9 ?_⟩
              show V.str _ = V.str _
              unfold subN
              rw [if_pos (of_decide_eq_true c1)]
            · refine ⟨_, rfl, q' _ _ s9 ?_⟩
              show V.str _ = V.str _
              unfold subN
              rw [if_neg (of_decide_eq_false c1)]
        · intro H8 zs s8 eD8 dL8
          have s58 := s7.trans s8
          have hfv8 := hfv.mono (Same.ext s58)
          refine ⟨_, rfl, _, rfl, _, rfl, use_slHead (k := 3) (ds.mono (Same.ext s58)) (show 3 ≤ 5 by decide) fun c3 H9 s9 hc3 => ⟨_, rfl, D3, zs, rfl, .inl ⟨SqL.of (s9 _ _ eD8), fun lt nlt => ?_⟩⟩⟩
          have s10 := same_new (o := .tup zs) nlt
          have dLt := den_new (K := K) nlt (dL8.mono (Same.ext s9))
          refine cat_den (hc3.mono (Same.ext s10)) dLt (by simp) fun cv H10 s11 hcv => ⟨szl (show 1 ≤ 1000000 by decide), fun t1 n1 => ?_⟩
          have s12 := same_new (o := .tup [cv]) n1
          have hst : Den K H10 (subS n0 s).d cv := by
            have : (subS n0 s).d = .t (([.s s.op.str, .s s.name, s.kd.d, s.mid, .s s.other] : List Dt).take 3 ++ (List.range 2).map (fun i => subD n0 ([s.mid, .s s.other].getD i .n))) := by
              show _ = Dt.t [.s s.op.str, .s s.name, s.kd.d, subD n0 s.mid, .s (subN n0 s.other)]
              rw [sub_mid]; rfl
            rw [this]; exact hcv
          have sz := s9.trans (s10.trans (s11.trans s12))
          refine cat_den (hfv8.mono (Same.ext sz)) (den_tup1 n1 hst) (by simp; omega) fun fv2 H11 s13 hf2 => ?_
          refine ⟨⟨_, _, _, _, _, _, _, _, _, _, _, _, rfl, ?_⟩, s5.trans (s58.trans (sz.trans s13))⟩
          have e1 : r.body.take (i + 1) = r.body.take i ++ [s] := by
            rw [List.take_add_one, es]; rfl
          rw [e1, List.map_append]
          unfold bodyD
          rw [List.map_append]
          exact hf2
      · rintro σ H5 ⟨⟨o4, o5, o6, o12, o13, o14, o15, o16, o17, o18, o19, fv, rfl, hfv⟩, s5⟩
        have f25 := f24.then s5
        have eD5 := fr_lst f25 hD2 eD Dc
        rw [lb, List.take_length] at hfv
        refine ⟨_, rfl, _, rfl, _, rfl, _, rfl, D, _, _, _, rfl, rfl, SqL.of eD5, atI_nat (j := 0) en0, szl (show 1 ≤ 1000000 by decide), fun to nto => ⟨szl (show 4 ≤ 1000000 by decide), fun t nt => ?_⟩⟩
        have s6 := same_new (o := .tup [.str n0]) nto
        have s7 := same_new (o := .tup [.ref ai, x2, fv, .ref to]) nt
        refine fin _ t fv (.ref to) (r.body.map (subS n0)) [n0] (f25.then (s6.trans s7)) (.inl (.inl upd_same)) (hfv.mono (Same.ext (s6.trans s7))) ((den_new nto (denL_strs [n0])).mono (Same.ext s7)) (sub_ok hn0 sg.nm sr (by decide)) (by rw [List.length_map]; omega) (show 1 ≤ 1 by decide) (show 1 ≤ 4 by decide) (fun x hx => ?_)
        rw [List.mem_singleton.mp hx]
        exact List.mem_append_left _ hn0
end
end K28
end
section
set_option Elab.async false
set_option linter.all false
set_option maxRecDepth 100000
set_option maxHeartbeats 4000000
set_option exponentiation.threshold 2000
namespace K28
open PySem L2
/-! the integers of a paper are short -/
def Dt.shrt : Nat → Dt → Bool
  | 0, _ => false
  | _ + 1, .n => false
  | _ + 1, .b _ => false
  | _ + 1, .i x => decide (x.natAbs < 10 ^ 60)
  | _ + 1, .s _ => true
  | k + 1, .t l => decide (l.length ≤ 1000) && l.all (Dt.shrt k)
section
variable {P : Program} {w : World} {K : PySem.W.Frag} {mg : Str → Option Value} {base : Heap}
theorem sc_law_are_short : FnScope ["_law_thing", "_law_it"] ["_law_thing"] (defScope (top 115)) := ⟨rfl, rfl, rfl, by decide +kernel, rfl, by decide +kernel, by decide +kernel⟩
def sp_short (K : PySem.W.Frag) (k : Nat) : Sp := fun vs H Q _ => ∃ (v : V) (dt : Dt), vs = [v] ∧ Den K H dt v ∧ dt.shrt k = true ∧ ∀ H', Same H H' → Q (.bl true) H'
theorem short_step (T : Tx K mg) (k : Nat) (IH : FnOk P w K mg base CX0 k 734 (fdA K 734) ["_law_thing"] (sp_short K k)) : FnOk P w K mg base CX0 (k + 1) 734 (fdA K 734) ["_law_thing"] (sp_short K (k + 1)) := by
  refine (f_law_are_short T).ok sc_law_are_short (fun vs H Q E h => ?_) (fun cdv A outer s H vs Q E hr h => ⟨_, PSs.nox (pss_cons (ps_if (pt_val (pe_callB (k_isi K) (by rfl) (free_isinstance T) (by decide +kernel) (pa_cons (pv 0) (pa_cons (pe_bltn (v := .ty "tuple") (by rfl) (free_tuple T) (by decide +kernel) rfl) pa_nil)))) (pss_one (ps_ret (pe_cmpR (k_eq K hr.units) (pe_lc (own := [("_law_it", 1)]) rfl sc_law_are_short.nd (k_pit K (pv 0)) (blkOk_by (N := ["_law_thing", "_law_it"]) (sc := (defScope (top 115))) (by decide +kernel)) (fun _ _ _ _ _ => (pg_name (i := 1) sc_law_are_short.nd rfl (.inl rfl) (hf := (.inr rfl)))) (fun _ _ _ _ _ => (pts_one (pt_not (pt_val (pe_call IH hr (by rfl) (g__law_are_short T) (f_law_are_short T).kp (b_law_are_short T) .nil pass0 (pa_cons (pv 1) pa_nil)))))) (fun _ _ _ _ _ => pe_int)) (pe_lst pa_nil) (nomark _)))) pss_nil)
  (pss_one (ps_ret (pe_or (pe_not (pe_callB (k_isi K) (by rfl) (free_isinstance T) (by decide +kernel) (pa_cons (pv 0) (pa_cons (pe_bltn (v := .ty "int") (by rfl) (free_int T) (by decide +kernel) rfl) pa_nil)))) (pe_one (pe_cmpR op_lt (pe_callB call_abs (by rfl) (free_abs T) (by decide +kernel) (pa_cons (pv 0) pa_nil)) (pe_op op_pow pe_int pe_int) (nomark _))))))), ?_⟩)
  · obtain ⟨v, dt, rfl, _⟩ := h; rfl
  · obtain ⟨v, dt, rfl, hv, sh, q⟩ := h
    cases dt with
    | n => cases sh
    | b x => cases sh
    | s x =>
      obtain rfl : v = .str x := hv
      refine ⟨_, rfl, use_isi (.base (.str x)) (by decide +kernel) ⟨false, rfl, iteF ?_⟩⟩
      exact ⟨_, rfl, use_isi (.base (.str x)) (by decide +kernel) ⟨false, rfl, true, rfl, iteT (q _ (Same.refl _))⟩⟩
    | i x =>
      obtain rfl : v = .int x := hv
      have sx : x.natAbs < 10 ^ 60 := of_decide_eq_true sh
      refine ⟨_, rfl, use_isi (.base (.int x)) (by decide +kernel) ⟨false, rfl, iteF ?_⟩⟩
      refine ⟨_, rfl, use_isi (.base (.int x)) (by decide +kernel) ⟨true, rfl, false, rfl, iteF ?_⟩⟩
      refine ⟨_, rfl, _, rfl, _, _, rfl, rfl, (show CPow 10 60 from ⟨by decide, by decide, by decide⟩), _, _, rfl, rfl, ?_⟩
      have e : decide ((if x < 0 then -x else x) < (10 : Int) ^ 60) = true := decide_eq_true (by split <;> omega)
      show Q (.bl (decide ((if x < 0 then -x else x) < (10 : Int) ^ 60))) _
      rw [e]
      exact q _ (Same.refl _)
    | t l =>
      have s2 : l.length ≤ 1000 ∧ ∀ e ∈ l, e.shrt k = true := by
        have : (decide (l.length ≤ 1000) && l.all (Dt.shrt k)) = true := sh
        rw [Bool.and_eq_true] at this
        exact ⟨of_decide_eq_true this.1, List.all_eq_true.mp this.2⟩
      obtain ⟨a, us, rfl, aT, aL⟩ := hv
      have ln := aL.length
      refine ⟨_, rfl, use_isi (ty_tup aT) (by decide +kernel) ⟨true, rfl, iteT ?_⟩⟩
      refine ⟨_, rfl, a, rfl, ⟨_, aT⟩, fun D nD => lc_ones nD (walk_tup (K := K) (a := a) (xs := us)) (fun _ => false) (by omega) (fun Hh s => Same.ext s _ _ aT) ?_ ?_⟩
      · rintro i x H1 H2 Qt Qf hi s1 ⟨rfl, ex⟩ q1 q2
        obtain ⟨e, ee, de⟩ := (aL.mono (Same.ext s1)).at ex
        exact ⟨rfl, _, rfl, x, e, rfl, de, s2.2 e (List.mem_of_getElem? ee), fun H4 s4 => ⟨true, rfl, iteF (q2 rfl _ s4)⟩⟩
      · intro H1 s1 eD
        refine ⟨szl (show 0 ≤ 1000000 by decide), fun e ne => ?_⟩
        have s2 := same_new (o := .lst []) ne
        refine use_eqC (s2 _ _ eD) upd_same ?_
        rw [decide_eq_true (onesL_nil.mpr fun _ _ => rfl)]
        exact q _ (s1.trans s2)
theorem short_all (T : Tx K mg) : ∀ k, FnOk P w K mg base CX0 k 734 (fdA K 734) ["_law_thing"] (sp_short K k)
  | 0 => ⟨fun vs H Q E h => (by obtain ⟨v, dt, _, _, z, _⟩ := h; cases z), fun A outer s H args us vs Q E _ _ _ _ h => (by obtain ⟨v, dt, _, _, z, _⟩ := h; cases z)⟩
  | k + 1 => short_step T k (short_all T k)
theorem ok_law_are_short (T : Tx K mg) : FnOk P w K mg base CX0 7 734 (fdA K 734) ["_law_thing"] (sp_short K 7) := short_all T 7
end
end K28
end
section
set_option Elab.async false
set_option linter.all false
set_option maxRecDepth 100000
set_option maxHeartbeats 4000000
set_option exponentiation.threshold 2000
namespace K28
open PySem L2
/-! all given integers of a small box -/
def FndOk (p : Pg) (b : Int) (i : Nat) (g : List Int) : Prop := g.length = i ∧ ∀ j, j < i → fits (p.ins.getD j ("", ⟨true, 0⟩)).2 (g.getD j 0) b = true
theorem FndOk.next {p : Pg} {b : Int} {i : Nat} {g : List Int} {u : Int} (h : FndOk p b i g) (hu : fits (p.ins.getD i ("", ⟨true, 0⟩)).2 u b = true) : FndOk p b (i + 1) (g ++ [u]) := by
  obtain ⟨h1, h2⟩ := h
  refine ⟨by rw [List.length_append, h1]; rfl, fun j hj => ?_⟩
  by_cases hj2 : j < i
  · rw [snoc_lt (by omega)]; exact h2 j hj2
  · obtain rfl : j = i := by omega
    rw [← h1, snoc_eq, h1]; exact hu
section
variable {P : Program} {w : World} {K : PySem.W.Frag} {mg : Str → Option Value} {base : Heap}
theorem sc_law_all_given : FnScope ["_law_program", "_law_bound", "_law_most", "_law_found", "_law_places", "_law_name", "_law_kind_here", "_law_size", "_law_numbers", "_law_later", "_law_given_here", "_law_small", "_law_large", "_law_at_here", "_law_pair", "_law_number"] ["_law_program", "_law_bound", "_law_most"] (defScope (top 114)) := ⟨rfl, rfl, rfl, by decide +kernel, rfl, by decide +kernel, by decide +kernel⟩
def sp_all (K : PySem.W.Frag) : Sp := fun vs H Q _ => ∃ (u : V) (p : Pg) (b : Int), vs = [u, .int b, .int 80] ∧ PgAt K H p u ∧ PgOk p ∧ 1 ≤ b ∧ b ≤ 1000 ∧ ∀ (l : Addr) (gs : List (List Int)) (H' : Hp), Same H H' → LD K H' l (gs.map wd) → gs.length ≤ 80 → (∀ g ∈ gs, GivenOk p b g) → Q (.ref l) H'
theorem ok_law_all_given (T : Tx K mg) : FnOk P w K mg base CX0 1 729 (fdA K 729) ["_law_program", "_law_bound", "_law_most"] (sp_all K) := by
  refine (f_law_all_given T).ok sc_law_all_given (fun vs H Q E h => ?_) (fun cdv A outer s H vs Q E hr h => ⟨_, PSs.nox (pss_cons (ps_set (i := 3) sc_law_all_given.nd rfl (.inl rfl) (pe_lst (pa_cons (pe_tup pa_nil) pa_nil)))
  (pss_cons (ps_for PassesOwn.never rfl (k_pit K (pe_ix (k_ixT K) (pv 0) pe_int (fun _ _ => rfl))) (k_tgt K 2 rfl (pgs_cons (pg_name (i := 5) sc_law_all_given.nd rfl (.inl rfl) (hf := (.inl rfl))) (pgs_cons (pg_name (i := 6) sc_law_all_given.nd rfl (.inl rfl) (hf := (.inl rfl))) pgs_nil)))
    (pss_cons (ps_set (i := 7) sc_law_all_given.nd rfl (.inl rfl) (pe_op op_mul (pe_ix (k_ixT K) (pv 6) pe_int (fun _ _ => rfl)) (pv 1)))
  (pss_cons (ps_set (i := 8) sc_law_all_given.nd rfl (.inl rfl) (pe_listRg rfl (by rfl) (free_list T) (prg_2 (by rfl) (free_range T) (pe_ifExp (pt_cmpR op_eq (pe_ix (k_ixT K) (pv 6) pe_int (fun _ _ => rfl)) pe_str (nomark _)) (pe_un un_neg (pv 7)) pe_int) (pe_op op_add (pv 7) pe_int))))
  (pss_cons (ps_if (pt_cmpR op_gt (pe_op op_mul (pe_callB (k_len K) (by rfl) (free_len T) (by decide +kernel) (pa_cons (pv 3) pa_nil)) (pe_callB (k_len K) (by rfl) (free_len T) (by decide +kernel) (pa_cons (pv 8) pa_nil))) (pv 2) (nomark _)) (pss_one (ps_ret (pe_lst pa_nil))) pss_nil)
  (pss_cons (ps_set (i := 9) sc_law_all_given.nd rfl (.inl rfl) (pe_lst pa_nil))
  (pss_cons (ps_for PassesOwn.never rfl (k_pil K (pv 3)) (pg_name (i := 10) sc_law_all_given.nd rfl (.inr rfl) (hf := (.inl rfl)))
    (pss_one (ps_expr (pe_bm PySem.F.plainAttrs_list PySem.F.slot_list_extend PySem.F.type_list_extend mt_extend (pv 9) (pa_cons (pe_lc (own := [("_law_number", 15)]) rfl sc_law_all_given.nd (k_pil K (pv 8)) (blkOk_by (N := ["_law_program", "_law_bound", "_law_most", "_law_found", "_law_places", "_law_name", "_law_kind_here", "_law_size", "_law_numbers", "_law_later", "_law_given_here", "_law_small", "_law_large", "_law_at_here", "_law_pair", "_law_number"]) (sc := (defScope (top 114))) (by decide +kernel)) (fun _ _ _ _ _ => (pg_name (i := 15) sc_law_all_given.nd rfl (.inl rfl) (hf := (.inr rfl)))) (fun _ _ _ _ _ => pts_nil) (fun _ _ _ _ _ => (pe_op (k_cat K) (pv 10) (pe_tup (pa_cons (pv 15) pa_nil))))) pa_nil)))))
  (pss_one (ps_set (i := 3) sc_law_all_given.nd rfl (.inl rfl) (pv 9)))))))))
  (pss_cons (ps_set (i := 4) sc_law_all_given.nd rfl (.inr rfl) (pe_callTy (call_dictP rfl) (by rfl) (free_dict T) (by decide +kernel) (pa_cons (pe_lc (own := [("_law_at_here", 13), ("_law_pair", 14)]) rfl sc_law_all_given.nd (k_enum K false (by rfl) (free_enumerate T) (pa_cons (pe_ix (k_ixT K) (pv 0) pe_int (fun _ _ => rfl)) pa_nil)) (blkOk_by (N := ["_law_program", "_law_bound", "_law_most", "_law_found", "_law_places", "_law_name", "_law_kind_here", "_law_size", "_law_numbers", "_law_later", "_law_given_here", "_law_small", "_law_large", "_law_at_here", "_law_pair", "_law_number"]) (sc := (defScope (top 114))) (by decide +kernel)) (fun _ _ _ _ _ => (k_tgt K 2 rfl (pgs_cons (pg_name (i := 13) sc_law_all_given.nd rfl (.inl rfl) (hf := (.inr rfl))) (pgs_cons (pg_name (i := 14) sc_law_all_given.nd rfl (.inl rfl) (hf := (.inr rfl))) pgs_nil)))) (fun _ _ _ _ _ => pts_nil) (fun _ _ _ _ _ => (pe_tup (pa_cons (pe_ix (k_ixT K) (pv 14) pe_int (fun _ _ => rfl)) (pa_cons (pv 13) pa_nil))))) pa_nil)))
  (pss_cons (ps_for PassesOwn.never rfl (k_pit K (pe_ix (k_ixT K) (pv 0) pe_int (fun _ _ => rfl))) (k_tgt K 2 rfl (pgs_cons (pg_name (i := 11) sc_law_all_given.nd rfl (.inr rfl) (hf := (.inl rfl))) (pgs_cons (pg_name (i := 12) sc_law_all_given.nd rfl (.inr rfl) (hf := (.inl rfl))) pgs_nil)))
    (pss_one (ps_setLc (i := 3) (own := [("_law_given_here", 10)]) rfl sc_law_all_given.nd rfl rfl (sw_true rfl rfl rfl (by decide +kernel)) (k_pil K (pv 3)) (blkOk_by (N := ["_law_program", "_law_bound", "_law_most", "_law_found", "_law_places", "_law_name", "_law_kind_here", "_law_size", "_law_numbers", "_law_later", "_law_given_here", "_law_small", "_law_large", "_law_at_here", "_law_pair", "_law_number"]) (sc := (defScope (top 114))) (by decide +kernel)) (fun _ _ _ _ _ => (pg_name (i := 10) sc_law_all_given.nd rfl (.inl rfl) (hf := (.inr rfl)))) (fun _ _ _ _ _ => (pts_one (pt_cmpR op_le (pe_ix (k_ixT K) (pv 10) (pe_dget (hu_of hr) (pv 4) (pv 11) (fun _ _ => rfl)) (fun _ _ => rfl)) (pe_ix (k_ixT K) (pv 10) (pe_dget (hu_of hr) (pv 4) (pv 12) (fun _ _ => rfl)) (fun _ _ => rfl)) (nomark _)))) (fun _ _ _ _ _ => (pv 10)))))
  (pss_one (ps_ret (pv 3))))))), ?_⟩)
  · obtain ⟨u, p, b, rfl, _⟩ := h; rfl
  · obtain ⟨u, p, b, rfl, ⟨a, x1, x2, x3, x4, rfl, hp⟩, ok, b1, b2, q⟩ := h
    have i2 := ok.ins.in2
    obtain ⟨ai, us, rfl, iT, iL⟩ := hp.ins.den
    have ln := iL.length
    rw [List.length_map] at ln
    have hp0 := hp
    refine ⟨szl (show 0 ≤ 1000000 by decide), fun t0 nt0 => ⟨szl (show 1 ≤ 1000000 by decide), fun l0 nl0 => ?_⟩⟩
    have s0 := (same_new (o := .tup []) nt0).trans (same_new (o := .lst [.ref t0]) nl0)
    have e0 : LD K (upd (upd H t0 (.tup [])) l0 (.lst [.ref t0])) l0 (([[]] : List (List Int)).map wd) := ⟨[.ref t0], upd_same, denL_one ((den_new (l := []) nt0 denL_nil).mono (Same.ext (same_new nl0)))⟩
    generalize upd (upd H t0 (.tup [])) l0 (.lst [.ref t0]) = H0 at s0 e0 ⊢
    refine ⟨_, rfl, a, _, _, _, rfl, rfl, Same.ext s0 _ _ hp.tup, rfl, ai, rfl, ⟨us, Same.ext s0 _ _ iT⟩, ?_⟩
    refine for_it (walk_tup (K := K) (a := ai) (xs := us)) (fun i σ H' => ∃ (o4 o5 o6 o7 o8 o9 o10 o11 o12 o13 o14 o15 : Option V) (fl : Addr) (gs : List (List Int)), σ = [some (.ref a), some (.int b), some (.int 80), some (.ref fl), o4, o5, o6, o7, o8, o9, o10, o11, o12, o13, o14, o15] ∧ Same H H' ∧ LD K H' fl (gs.map wd) ∧ gs.length ≤ 80 ∧ ∀ g ∈ gs, FndOk p b i g)
      ⟨_, _, _, _, _, _, _, _, _, _, _, _, _, [[]], rfl, s0, e0, (show 1 ≤ 80 by decide), fun g hg => by rw [List.mem_singleton.mp hg]; exact ⟨rfl, fun j hj => absurd hj (Nat.not_lt_zero _)⟩⟩ (fun i σ H' _ h => by obtain ⟨_, _, _, _, _, _, _, _, _, _, _, _, _, _, _, s, _⟩ := h; exact Same.ext s _ _ iT) ?_ ?_
    · rintro i x σ H1 H2 hi ⟨o4, o5, o6, o7, o8, o9, o10, o11, o12, o13, o14, o15, fl, gs, rfl, s2, ⟨vs, ev, dv⟩, gz, gok⟩ ⟨rfl, ex⟩
      have lv := dv.length
      rw [List.length_map] at lv
      obtain ⟨r, er, dr⟩ := map_at1 (DenL.mono (Same.ext s2) iL) ex
      obtain ⟨ar, y, rfl, rT, dy⟩ := in_den dr
      obtain ⟨ak, rfl, kT⟩ := kd_den dy
      have er2 : p.ins.getD i ("", ⟨true, 0⟩) = r := by rw [List.getD_eq_getElem?_getD, er]; rfl
      have hkd := (ok.ins.nm r (List.mem_of_getElem? er)).2
      have hk1 : 1 ≤ r.2.k ∧ r.2.k ≤ 30 := of_decide_eq_true hkd
      have kb0 : 0 ≤ (r.2.k : Int) * b := Int.mul_nonneg (by omega) (by omega)
      have kb1 : (r.2.k : Int) * b ≤ 30 * 1000 := Int.mul_le_mul (by omega) b2 (by omega) (by omega)
      refine g_pair rT ?_
      refine ⟨_, rfl, ak, _, _, _, rfl, rfl, kT, rfl, _, rfl, _, _, rfl, rfl, .inl ⟨by omega, by omega⟩, ?_⟩
      refine ⟨_, rfl, ak, _, _, _, rfl, rfl, kT, rfl, rfl, _, rfl, lastB _ (fun c1 => ⟨_, rfl, _, rfl, _, rfl, _, _, rfl, rfl, _, _, rfl, rfl, ?g1⟩) (fun c1 => ⟨_, rfl, _, _, rfl, rfl, _, _, rfl, rfl, ?g2⟩)⟩
      case' g1 =>
        have cb : r.2.both = true := by
          have := V.str.inj (of_decide_eq_true c1)
          cases e : r.2.both with
          | true => rfl
          | false => rw [e] at this; exact absurd this (by decide)
        have hlo : ∀ v : Int, -((r.2.k : Int) * b) ≤ v → v ≤ (r.2.k : Int) * b → fits r.2 v b = true := fun v h1 h2 => by
          unfold fits
          rw [cb]
          exact decide_eq_true ⟨by rw [if_pos rfl, Int.neg_mul]; exact h1, h2⟩
        have hlo1 : -((r.2.k : Int) * b) < 1 := by omega
        have hlo2 : -30000 ≤ -((r.2.k : Int) * b) := by omega
        generalize -((r.2.k : Int) * b) = lo at hlo hlo1 hlo2 ⊢
      case' g2 =>
        have hlo : ∀ v : Int, 0 ≤ v → v ≤ (r.2.k : Int) * b → fits r.2 v b = true := fun v h1 h2 => by
          unfold fits
          exact decide_eq_true ⟨by split <;> (try rw [Int.neg_mul]) <;> omega, h2⟩
        have hlo1 : (0 : Int) < 1 := by omega
        have hlo2 : (-30000 : Int) ≤ 0 := by omega
        generalize (0 : Int) = lo at hlo hlo1 hlo2 ⊢
      all_goals
        refine ⟨⟨by omega, by omega, by omega, by omega, by omega⟩, fun nl nnl => ?_⟩
        have hN := rgV_length lo ((r.2.k : Int) * b + 1)
        have eR : ∀ (m : Nat) (x : V), (rgV lo ((r.2.k : Int) * b + 1))[m]? = some x → x = .int (lo + (m : Nat)) := fun m x e => by
          have hm := (List.getElem?_eq_some_iff.mp e).1
          unfold rgV at e
          rw [List.getElem?_map, List.getElem?_range (by omega)] at e
          exact (Option.some.inj e).symm
        have s3 := same_new (o := .lst (rgV lo ((r.2.k : Int) * b + 1))) nnl
        have enl : upd H2 nl (.lst (rgV lo ((r.2.k : Int) * b + 1))) nl = some (.lst (rgV lo ((r.2.k : Int) * b + 1))) := upd_same
        generalize upd H2 nl (.lst (rgV lo ((r.2.k : Int) * b + 1))) = H3 at s3 enl ⊢
        generalize hR : rgV lo ((r.2.k : Int) * b + 1) = R at hN eR enl ⊢
        refine ⟨_, rfl, fl, _, rfl, .inl (SqL.of (s3 _ _ ev)), _, rfl, nl, _, rfl, .inl (SqL.of enl), _, _, rfl, rfl, .inl ⟨by omega, by omega⟩, _, rfl, _, _, rfl, rfl, _, rfl, lastB _ (fun c2 => ?_) (fun c2 => ?_)⟩
        · exact ⟨szl (show 0 ≤ 1000000 by decide), fun e ne => q e [] _ (s2.trans (s3.trans (same_new ne))) ⟨[], upd_same, rfl⟩ (by decide) (fun g hg => by cases hg)⟩
        · have c3 : ¬ ((vs.length : Nat) : Int) * ((R.length : Nat) : Int) > 80 := of_decide_eq_false c2
          have c4 : vs.length * R.length ≤ 80 := by
            have : ((vs.length * R.length : Nat) : Int) ≤ 80 := by push_cast; omega
            omega
          refine ⟨szl (show 0 ≤ 1000000 by decide), fun l9 n9 => ?_⟩
          have s9 := same_new (o := .lst []) n9
          have e9 : upd H3 l9 (.lst []) l9 = some (.lst []) := upd_same
          generalize upd H3 l9 (.lst []) = H4 at s9 e9 ⊢
          have ev3 := s3 _ _ ev
          have ne9 : l9 ≠ nl := fun z => by rw [z, enl] at n9; cases n9
          have nef : l9 ≠ fl := fun z => by rw [z, ev3] at n9; cases n9
          refine ⟨_, rfl, fl, rfl, ⟨_, SqL.of (s9 _ _ ev3)⟩, ?_⟩
          refine for_it (walk_list (K := K) (a := fl) (xs := vs)) (fun j σ H' => ∃ (o10 o11 o12 o13 o14 o15 : Option V) (gs2 : List (List Int)), σ = [some (.ref a), some (.int b), some (.int 80), some (.ref fl), o4, some (.str r.1), some (.ref ak), some (.int ((r.2.k : Int) * b)), some (.ref nl), some (.ref l9), o10, o11, o12, o13, o14, o15] ∧ Same H3 H' ∧ LD K H' l9 (gs2.map wd) ∧ gs2.length = j * R.length ∧ ∀ g ∈ gs2, FndOk p b (i + 1) g)
            ⟨_, _, _, _, _, _, [], rfl, s9, ⟨[], e9, rfl⟩, by simp, fun g hg => by cases hg⟩ (fun j σ H' _ h => by obtain ⟨_, _, _, _, _, _, _, _, s, _⟩ := h; exact SqL.of (s _ _ ev3)) ?_ ?_
          · rintro j x σ H5 H6 hj ⟨o10, o11, o12, o13, o14, o15, gs2, rfl, s5, ⟨vs2, ev2, dv2⟩, l2, gok2⟩ ⟨rfl, ex2⟩
            have lv2 := dv2.length
            rw [List.length_map] at lv2
            obtain ⟨g, eg, dg⟩ := map_at1 (dv.mono (Same.ext (s3.trans s5))) ex2
            obtain ⟨ag, rfl, gT⟩ := dg.wd
            have gm := gok g (List.mem_of_getElem? eg)
            have jz : (j + 1) * R.length ≤ 80 := Nat.le_trans (Nat.mul_le_mul_right _ (show j + 1 ≤ vs.length by omega)) c4
            have jz2 : (j + 1) * R.length = j * R.length + R.length := Nat.succ_mul _ _
            have i6 : g.length ≤ 6 := by have := gm.1; omega
            refine ⟨_, rfl, .inl ⟨rfl, _, SqL.of ev2⟩, _, rfl, nl, rfl, ⟨_, SqL.of (s5 _ _ enl)⟩, fun D nD => lc_map (K := K) nD (walk_list (K := K) (a := nl) (xs := R)) (fun m => wd (g ++ [lo + (m : Nat)])) (by omega) (fun Hh s => SqL.of (s _ _ (s5 _ _ enl))) ?_ ?_⟩
            · rintro m x H7 H8 Q' hm s7 ⟨rfl, ex3⟩ q'
              obtain rfl := eR m x ex3
              refine ⟨rfl, _, rfl, _, rfl, szl (show 1 ≤ 1000000 by decide), fun t nt => ?_⟩
              have s8 := same_new (o := .tup [.int (lo + (m : Nat))]) nt
              exact cat_one (Same.ext (s7.trans s8) _ _ gT) (.inl (.inl upd_same)) (by omega) fun v H9 s9 dv9 => q' _ _ (s8.trans s9) dv9
            · intro H7 zs s7 eD dL
              have lz := dL.length
              rw [List.length_map, List.length_range] at lz
              have ev7 := s7 _ _ ev2
              have dx := dv2.mono (Same.ext s7 (K := K))
              have xw : ExT K H7 (upd H7 l9 (.lst (vs2 ++ zs))) := ext_upd ev7 rfl
              refine ⟨l9, D, _, _, rfl, rfl, ev7, eD, szl (by omega), _, _, _, _, _, _, gs2 ++ (List.range R.length).map (fun m => g ++ [lo + (m : Nat)]), rfl, same_upd (s5.trans s7) n9, ⟨_, upd_same, ?_⟩, by rw [List.length_append, List.length_map, List.length_range]; omega, fun h hh => ?_⟩
              · rw [List.map_append, List.map_map]
                exact (DenL.append dx dL).mono xw
              · rcases List.mem_append.mp hh with z | z
                · exact gok2 h z
                · obtain ⟨m, hm, rfl⟩ := List.mem_map.mp z
                  have hm2 := List.mem_range.mp hm
                  exact gm.next (by rw [er2]; exact hlo _ (by omega) (by omega))
          · rintro σ H5 ⟨o10, o11, o12, o13, o14, o15, gs2, rfl, s5, hl2, l2, gok2⟩
            exact ⟨_, rfl, _, _, _, _, _, _, _, _, _, _, _, _, l9, gs2, rfl, s2.trans (s3.trans s5), hl2, by omega, gok2⟩
    · rintro σ H1 ⟨o4, o5, o6, o7, o8, o9, o10, o11, o12, o13, o14, o15, fl, gs, rfl, s2, ⟨vs, ev, dv⟩, gz, gok⟩
      have iT1 := Same.ext s2 _ _ iT
      refine ⟨_, rfl, a, _, _, _, rfl, rfl, Same.ext s2 _ _ hp.tup, rfl, ai, us, rfl, iT1, fun D nD => lc_map (K := K) nD (n := us.length) (G := fun Hh => SqT K Hh ai us) (walk_enumB (k := false) (K := K) (a := ai) (xs := us)) (plD p.ins) (by omega) (fun Hh s => Same.ext s _ _ iT1) ?_ ?_⟩
      · rintro i x H2 H3 Q' hi s3 ⟨A', e1, e2, rfl, nA, rfl, ee, ef⟩ q'
        cases (Option.some.inj ee)
        have ef2 : us[i]? = some e2 := ef
        have s4 := same_new (o := .tup [.int (i : Int), e2]) nA
        obtain ⟨r, er, dr⟩ := map_at1 (DenL.mono (Same.ext (s2.trans (s3.trans s4))) iL) ef2
        obtain ⟨ar, y, rfl, rT, dy⟩ := in_den dr
        have er2 : p.ins.getD i ("", ⟨true, 0⟩) = r := by rw [List.getD_eq_getElem?_getD, er]; rfl
        refine g_pair (.inl (.inl upd_same)) ⟨rfl, _, rfl, ar, _, _, _, rfl, rfl, rT, rfl, _, rfl, szl (show 2 ≤ 1000000 by decide), fun t nt => q' _ _ (s4.trans (same_new nt)) ?_⟩
        unfold plD
        rw [er2]
        exact den_new nt (denL_cons rfl (denL_cons rfl denL_nil))
      intro H2 ys s3 eD dL
      rw [ln] at dL
      obtain ⟨ps, kvs, rfl, hpr, hdd⟩ := pl_dict dL ok.ins.nd
      refine ⟨D, ps, kvs, rfl, SqL.of eD, hpr, fun pl npl => ?_⟩
      have hd3 := hdd pl npl
      have s4 := s3.trans (same_new (o := .dK (mergeK [] kvs)) npl)
      generalize upd H2 pl (.dK (mergeK [] kvs)) = H3 at hd3 s4 ⊢
      have s5 := s2.trans s4
      obtain ⟨af, fs, ef, fT, fL⟩ := id (hp.facts.mono (Same.ext s5))
      subst ef
      have lf := fL.length
      rw [List.length_map] at lf
      have hfz := ok.facts.f1
      refine ⟨_, rfl, a, _, _, _, rfl, rfl, Same.ext s5 _ _ hp.tup, rfl, af, rfl, ⟨fs, fT⟩, ?_⟩
      refine for_it (walk_tup (K := K) (a := af) (xs := fs)) (fun i σ H' => ∃ (o5 o6 o7 o8 o9 o10 o11 o12 o13 o14 o15 : Option V) (fl : Addr) (gs : List (List Int)), σ = [some (.ref a), some (.int b), some (.int 80), some (.ref fl), some (.ref pl), o5, o6, o7, o8, o9, o10, o11, o12, o13, o14, o15] ∧ Same H3 H' ∧ LD K H' fl (gs.map wd) ∧ gs.length ≤ 80 ∧ ∀ g ∈ gs, FndOk p b p.ins.length g ∧ ∀ j, j < i → ∀ r, p.facts[j]? = some r → g.getD (idxN p.ins r.1) 0 ≤ g.getD (idxN p.ins r.2) 0)
        ⟨_, _, _, _, _, _, _, _, _, _, _, fl, gs, rfl, Same.refl _, ⟨vs, s4 _ _ ev, dv.mono (Same.ext s4)⟩, gz, fun g hg => ⟨by rw [← ln]; exact gok g hg, fun j hj => absurd hj (Nat.not_lt_zero _)⟩⟩ (fun i σ H' _ h => by obtain ⟨_, _, _, _, _, _, _, _, _, _, _, _, _, _, s, _⟩ := h; exact Same.ext s _ _ fT) ?_ ?_
      · rintro i x σ H4 H5 hi ⟨o5, o6, o7, o8, o9, o10, o11, o12, o13, o14, o15, fl, gs, rfl, s6, ⟨vs, ev, dv⟩, gz, gok⟩ ⟨rfl, ex⟩
        have lv := dv.length
        rw [List.length_map] at lv
        obtain ⟨r, er, dr⟩ := map_at1 (fL.mono (Same.ext s6)) ex
        obtain ⟨ar, rfl, rT⟩ := ft_den dr
        obtain ⟨m1, m2, _⟩ := ok.facts.f2 r (List.mem_of_getElem? er)
        obtain ⟨_, _, _, hi1⟩ := idx_ins m1
        obtain ⟨_, _, _, hi2⟩ := idx_ins m2
        refine g_pair rT ?_
        refine ⟨_, rfl, fl, rfl, ⟨_, SqL.of ev⟩, fun D nD => lc_filter (K := K) nD (walk_list (K := K) (a := fl) (xs := vs)) (fun j => decide ((gs.getD j []).getD (idxN p.ins r.1) 0 ≤ (gs.getD j []).getD (idxN p.ins r.2) 0)) (fun j => wd (gs.getD j [])) (by omega) (fun Hh s => SqL.of (s _ _ ev)) ?_ ?_⟩
        · rintro j x H6 H7 Qt Qf hj s7 ⟨rfl, ex2⟩ q1 q2
          obtain ⟨g, eg, dg⟩ := map_at1 (dv.mono (Same.ext s7)) ex2
          obtain ⟨ag, rfl, gT⟩ := dg.wd
          have egd : gs.getD j [] = g := by rw [List.getD_eq_getElem?_getD, eg]; rfl
          rw [egd] at q1 q2
          have gl := (gok g (List.mem_of_getElem? eg)).1.1
          obtain ⟨v1, g1, e1⟩ := (hd3.same (s6.trans s7)).get (plL_get ok.ins.nd m1)
          obtain ⟨v2, g2, e2⟩ := (hd3.same (s6.trans s7)).get (plL_get ok.ins.nd m2)
          obtain rfl : v1 = .int (idxN p.ins r.1 : Nat) := e1
          obtain rfl : v2 = .int (idxN p.ins r.2 : Nat) := e2
          have a1 : atI (g.map V.int) (idxN p.ins r.1 : Nat) = some (.int (g.getD (idxN p.ins r.1) 0)) := atI_nat (int_at (by omega))
          have a2 : atI (g.map V.int) (idxN p.ins r.2 : Nat) = some (.int (g.getD (idxN p.ins r.2) 0)) := atI_nat (int_at (by omega))
          exact ⟨rfl, _, rfl, _, rfl, _, rfl, pl, _, rfl, g1, ag, _, _, _, rfl, rfl, gT, a1, _, rfl, _, rfl, _, rfl, pl, _, rfl, g2, ag, _, _, _, rfl, rfl, gT, a2, _, _, rfl, rfl, _, rfl, lastB _ (fun c => ⟨_, rfl, q1 c _ _ (Same.refl _) dg⟩) (fun c => q2 c _ (Same.refl _))⟩
        · intro H6 zs s7 eD dL
          refine ⟨_, _, _, _, _, _, _, _, _, _, _, D, ((List.range vs.length).filter (fun j => decide ((gs.getD j []).getD (idxN p.ins r.1) 0 ≤ (gs.getD j []).getD (idxN p.ins r.2) 0))).map (fun j => gs.getD j []), rfl, s6.trans s7, ⟨zs, eD, by rw [List.map_map]; exact dL⟩, ?_, fun g hg => ?_⟩
          · rw [List.length_map]
            have := List.length_filter_le (fun j => decide ((gs.getD j []).getD (idxN p.ins r.1) 0 ≤ (gs.getD j []).getD (idxN p.ins r.2) 0)) (List.range vs.length)
            rw [List.length_range] at this
            omega
          · obtain ⟨j, hj, ej⟩ := List.mem_map.mp hg
            obtain ⟨hj1, hj2⟩ := List.mem_filter.mp hj
            have hj3 := List.mem_range.mp hj1
            have ge : gs[j]? = some g := by
              rw [← ej, List.getD_eq_getElem?_getD, List.getElem?_eq_getElem (by omega)]; rfl
            have gk := gok g (List.mem_of_getElem? ge)
            refine ⟨gk.1, fun k hk r2 er2 => ?_⟩
            by_cases hk2 : k < i
            · exact gk.2 k hk2 r2 er2
            · obtain rfl : k = i := by omega
              rw [er] at er2
              cases Option.some.inj er2
              have := of_decide_eq_true hj2
              rw [ej] at this
              exact this
      · rintro σ H4 ⟨o5, o6, o7, o8, o9, o10, o11, o12, o13, o14, o15, fl, gs, rfl, s6, hl, gz, gok⟩
        refine ⟨_, rfl, q fl gs H4 (s5.trans s6) hl gz fun g hg => ?_⟩
        obtain ⟨⟨g1, g2⟩, g3⟩ := gok g hg
        refine ⟨g1, g2, fun r hr => ?_⟩
        obtain ⟨j, hj⟩ := List.mem_iff_getElem?.mp hr
        obtain ⟨m1, m2, _⟩ := ok.facts.f2 r hr
        rw [getV_in0 ok.ins.nd m1, getV_in0 ok.ins.nd m2]
        exact g3 j (by have := (List.getElem?_eq_some_iff.mp hj).1; omega) r hj
end
end K28
end
section
set_option Elab.async false
set_option linter.all false
set_option maxRecDepth 100000
set_option maxHeartbeats 4000000
set_option exponentiation.threshold 2000
namespace K28
open PySem L2
/-! the plain law: what the walls say of runs -/
theorem dot_unit {n i : Nat} {g : List Int} (hg : g.length = n) (hi : i < n) : dot (unitF n i) g = g.getD i 0 := by
  rw [dot_sN (by rw [unitF_len, hg]), unitF_len, sN_one hi fun k hk ne => ?_]
  · unfold unitF
    rw [List.getD_eq_getElem?_getD, List.getElem?_map, List.getElem?_range hi]
    show (if i = i then (1 : Int) else 0) * _ = _
    rw [if_pos rfl, Int.one_mul]
  · unfold unitF
    rw [List.getD_eq_getElem?_getD, List.getElem?_map, List.getElem?_range hk]
    show (if i = k then (1 : Int) else 0) * _ = _
    rw [if_neg (fun z => ne z.symm), Int.zero_mul]
theorem idx_at {ins : List (Str × Kd)} (nd : (ins.map (·.1)).Nodup) {x : Str} (h : x ∈ ins.map (·.1)) {g : List Int} (hg : g.length = ins.length) : getV (in0 ins g ins.length) x = dot (unitF ins.length (idxN ins x)) g := by
  obtain ⟨_, _, _, hi⟩ := idx_ins h
  rw [getV_in0 nd h, dot_unit hg hi]
theorem ne_names {l : NL} {x : Str} (h : getL l x = none) : ¬ x ∈ l.map (·.1) := fun z => by
  have := isSome_iff.mpr z
  rw [h] at this; cases this
/-- a value is its form at the givens -/
theorem vals_at {ins : List (Str × Kd)} {b : List Stm} (nd : (ins.map (·.1)).Nodup) (ok : BodyOk (insL ins) b) {g : List Int} (hg : g.length = ins.length) :
    ∀ i, i ≤ b.length → ∀ x, x ∈ knownS ins (b.take i) → getV (valsF ins g (b.take i)) x = dot (getI (envF ins (b.take i)) x) g := by
  intro i
  induction i with
  | zero =>
    intro _ x hx
    have hx2 : x ∈ ins.map (·.1) := by
      unfold knownS at hx
      simpa using hx
    rw [List.take_zero, getI_idx nd hx2]
    exact idx_at nd hx2 hg
  | succ i ih =>
    intro hi x hx
    have e : b[i]? = some b[i] := List.getElem?_eq_getElem (by omega)
    generalize b[i] = s at e
    have so := ok i s e
    have n1 := ne_names so.new
    rw [names_stL] at n1
    rw [valsF_snoc e, envF_snoc e, getV_snoc, getI_snoc]
    · by_cases h : x = s.name
      · rw [if_pos h, if_pos h]
        have u := so.right
        have o1 := known_get.mp u.2.2
        have l1 : ∀ x, x ∈ knownS ins (b.take i) → (getI (envF ins (b.take i)) x).length = ins.length := fun x hx => getI_len (envF_len ok i (by omega)) (by rw [names_envF]; exact hx)
        unfold stVal stForm
        cases ho : s.op with
        | times =>
          show s.fac * _ = dot (timesF _ _) g
          rw [dot_times, ih (by omega) _ o1]
        | plus =>
          have o2 := known_get.mp (u.2.1 (by rw [ho]; decide))
          show _ + _ = dot (sumF _ _ 1) g
          rw [dot_sum _ _ _ _ (by rw [l1 _ o1, l1 _ o2]), ih (by omega) _ o1, ih (by omega) _ o2, Int.one_mul]
        | minus =>
          have o2 := known_get.mp (u.2.1 (by rw [ho]; decide))
          show _ - _ = dot (sumF _ _ (-1)) g
          rw [dot_sum _ _ _ _ (by rw [l1 _ o1, l1 _ o2]), ih (by omega) _ o1, ih (by omega) _ o2]; omega
      · rw [if_neg h, if_neg h]
        refine ih (by omega) x ?_
        have e2 : b.take (i + 1) = b.take i ++ [s] := by rw [List.take_add_one, e]; rfl
        unfold knownS at hx ⊢
        rw [e2, List.map_append, ← List.append_assoc] at hx
        rcases List.mem_append.mp hx with z | z
        · exact z
        · exact absurd (List.mem_singleton.mp z) h
    · exact fun q hq z => n1 (by rw [← names_envF, ← z]; exact List.mem_map.mpr ⟨q, hq, rfl⟩)
    · exact fun q hq z => n1 (by rw [← names_valsF, ← z]; exact List.mem_map.mpr ⟨q, hq, rfl⟩)
theorem stVal_form {p : Pg} (ok : PgOk p) {g : List Int} (hg : g.length = p.ins.length) {i : Nat} (hi : i < p.body.length) : valAt p g i = dot (formAt p.ins p.body i) g := by
  have e : p.body[i]? = some p.body[i] := List.getElem?_eq_getElem hi
  generalize p.body[i] = s at e
  have so := ok.body i s e
  have V := vals_at ok.ins.nd ok.body hg i (by omega)
  have u := so.right
  have o1 := known_get.mp u.2.2
  have l1 : ∀ x, x ∈ knownS p.ins (p.body.take i) → (getI (envF p.ins (p.body.take i)) x).length = p.ins.length := fun x hx => getI_len (envF_len ok.body i (by omega)) (by rw [names_envF]; exact hx)
  rw [valAt_eq e]
  unfold formAt
  rw [e]
  show stVal _ _ = dot (stForm _ _) g
  unfold stVal stForm
  cases ho : s.op with
  | times =>
    show s.fac * _ = dot (timesF _ _) g
    rw [dot_times, V _ o1]
  | plus =>
    have o2 := known_get.mp (u.2.1 (by rw [ho]; decide))
    show _ + _ = dot (sumF _ _ 1) g
    rw [dot_sum _ _ _ _ (by rw [l1 _ o1, l1 _ o2]), V _ o1, V _ o2, Int.one_mul]
  | minus =>
    have o2 := known_get.mp (u.2.1 (by rw [ho]; decide))
    show _ - _ = dot (sumF _ _ (-1)) g
    rw [dot_sum _ _ _ _ (by rw [l1 _ o1, l1 _ o2]), V _ o1, V _ o2]; omega
theorem keeps_flat {α : Type} (f : α → List (List Int)) (pt : List Int) : ∀ l : List α, keeps (l.flatMap f) pt = l.all fun a => keeps (f a) pt
  | [] => rfl
  | a :: l => by
    rw [List.flatMap_cons, List.all_cons, ← keeps_flat f pt l]
    unfold keeps
    rw [List.all_append]
theorem keeps_app {l r : List (List Int)} {pt : List Int} : keeps (l ++ r) pt = (keeps l pt && keeps r pt) := by
  unfold keeps
  rw [List.all_append]
theorem all_congr {α : Type} {f g : α → Bool} : ∀ {l : List α}, (∀ a ∈ l, f a = g a) → l.all f = l.all g
  | [], _ => rfl
  | a :: l, h => by rw [List.all_cons, List.all_cons, h a (List.mem_cons_self ..), all_congr fun b hb => h b (List.mem_cons_of_mem _ hb)]
/-- a run ends where the values' walls are kept -/
theorem ends_keeps {p : Pg} (ok : PgOk p) {b : Int} {g : List Int} (hg : g.length = p.ins.length) : ends_ p b g = keeps (vwalls p) (g ++ [b]) := by
  unfold ends_ vwalls
  rw [keeps_flat]
  refine all_congr fun i hi => ?_
  have hi2 := List.mem_range.mp hi
  rw [stVal_form ok hg hi2]
  exact fits_walls (by rw [formAt_len ok hi2, hg])
/-- givens are those that keep the inputs' walls -/
theorem given_keeps {p : Pg} (ok : PgOk p) {b : Int} {g : List Int} (hg : g.length = p.ins.length) : GivenOk p b g ↔ keeps (inWalls p.ins p.facts) (g ++ [b]) = true := by
  have fw : ∀ q ∈ p.facts, dot (fwall p.ins q) (g ++ [b]) = g.getD (idxN p.ins q.2) 0 - g.getD (idxN p.ins q.1) 0 := fun q hq => by
    obtain ⟨m1, m2, _⟩ := ok.facts.f2 q hq
    obtain ⟨_, _, _, h1⟩ := idx_ins m1
    obtain ⟨_, _, _, h2⟩ := idx_ins m2
    unfold fwall
    rw [dot_snoc (by unfold sumF; rw [List.length_zipWith, unitF_len, unitF_len]; omega), dot_sum _ _ _ _ (by rw [unitF_len, unitF_len]), dot_unit hg h1, dot_unit hg h2]
    omega
  unfold inWalls
  rw [keeps_app, keeps_flat, Bool.and_eq_true]
  have kw : ∀ i, i < p.ins.length → keeps (inKW p.ins i) (g ++ [b]) = fits (p.ins.getD i ("", ⟨true, 0⟩)).2 (g.getD i 0) b := fun i hi => by
    unfold inKW
    rw [← fits_walls (by rw [unitF_len, hg]), dot_unit hg hi]
  constructor
  · rintro ⟨_, h2, h3⟩
    refine ⟨List.all_eq_true.mpr fun i hi => ?_, List.all_eq_true.mpr fun r hr => ?_⟩
    · rw [kw i (List.mem_range.mp hi)]
      exact h2 i (List.mem_range.mp hi)
    · obtain ⟨q, hq, rfl⟩ := List.mem_map.mp hr
      obtain ⟨m1, m2, _⟩ := ok.facts.f2 q hq
      have := h3 q hq
      rw [getV_in0 ok.ins.nd m1, getV_in0 ok.ins.nd m2] at this
      rw [fw q hq]
      exact decide_eq_true (by omega)
  · rintro ⟨h2, h3⟩
    refine ⟨hg, fun i hi => ?_, fun q hq => ?_⟩
    · rw [← kw i hi]
      exact List.all_eq_true.mp h2 i (List.mem_range.mpr hi)
    · obtain ⟨m1, m2, _⟩ := ok.facts.f2 q hq
      have := of_decide_eq_true (List.all_eq_true.mp h3 _ (List.mem_map.mpr ⟨q, hq, rfl⟩))
      rw [fw q hq] at this
      rw [getV_in0 ok.ins.nd m1, getV_in0 ok.ins.nd m2]
      omega
theorem room_keeps {p : Pg} (ok : PgOk p) {b : Int} {g : List Int} (hg : g.length = p.ins.length) : keeps (room p) (g ++ [b]) = true ↔ GivenOk p b g ∧ ends_ p b g = true := by
  unfold room
  rw [keeps_app, Bool.and_eq_true, ← given_keeps ok hg, ← ends_keeps ok hg]
/-- what a paper of weights says at a point -/
theorem pap_point {walls : List (List Int)} {wall : List Int} {Bd : Nat} {m b : Int} {ws pt : List Int} (hw : ∀ r ∈ walls, r.length = wall.length) (h : IsPap walls wall Bd m b ws) (hp : pt.length = wall.length) (h1 : 1 ≤ pt.getD (wall.length - 1) 0) (hn : 1 ≤ wall.length)
    (hk : keeps walls pt = true) : 0 ≤ dot wall pt := by
  have nn : ∀ j, j < walls.length → 0 ≤ dot (walls.getD j []) pt := fun j hj => by
    have := List.all_eq_true.mp hk (walls.getD j []) (by rw [getD_of hj]; exact List.getElem_mem hj)
    exact of_decide_eq_true this
  have e1 : m * dot wall pt = sN ws.length (fun j => ws.getD j 0 * dot (walls.getD j []) pt) + b * pt.getD (wall.length - 1) 0 := by
    have e2 : m * dot wall pt = sN wall.length (fun x => (comb ws walls x + (if x + 1 = wall.length then b else 0)) * pt.getD x 0) := by
      rw [dot_sN hp.symm, ← sN_mul]
      refine sN_congr fun x hx => ?_
      rw [h.eq x hx, Int.mul_assoc]
    rw [e2]
    have e3 : sN wall.length (fun x => (comb ws walls x + (if x + 1 = wall.length then b else 0)) * pt.getD x 0) = sN wall.length (fun x => comb ws walls x * pt.getD x 0) + sN wall.length (fun x => (if x + 1 = wall.length then b else 0) * pt.getD x 0) := by
      rw [← sN_add]
      exact sN_congr fun x hx => Int.add_mul _ _ _
    rw [e3]
    congr 1
    · have e4 : sN wall.length (fun x => comb ws walls x * pt.getD x 0) = sN wall.length (fun x => sN ws.length (fun j => ws.getD j 0 * ((walls.getD j []).getD x 0 * pt.getD x 0))) := sN_congr fun x hx => by
        rw [comb_sN h.len, Int.mul_comm, ← sN_mul]
        exact sN_congr fun j hj => by rw [Int.mul_comm (pt.getD x 0), Int.mul_assoc]
      rw [e4, sN_swap]
      refine sN_congr fun j hj => ?_
      have hj2 : j < walls.length := by rw [← h.len]; exact hj
      have lj : (walls.getD j []).length = wall.length := hw _ (by rw [getD_of hj2]; exact List.getElem_mem hj2)
      rw [sN_mul, dot_sN (by rw [lj, hp]), lj]
    · rw [sN_one (i := wall.length - 1) (by omega) fun k hk ne => by rw [if_neg (by omega), Int.zero_mul], if_pos (by omega)]
  have s0 : 0 ≤ sN ws.length (fun j => ws.getD j 0 * dot (walls.getD j []) pt) := sN_nonneg fun j hj => Int.mul_nonneg (h.w0 _ (by rw [getD_of hj]; exact List.getElem_mem hj)) (nn j (by rw [← h.len]; exact hj))
  by_cases hm : m = 0
  · exfalso
    have hb := h.mb
    rw [hm, Int.zero_mul] at e1
    have : 1 * 1 ≤ b * pt.getD (wall.length - 1) 0 := Int.mul_le_mul (by omega) h1 (by omega) (by omega)
    omega
  · have hm2 := h.m0
    have : 0 ≤ m * dot wall pt := by
      rw [e1]
      have : 0 ≤ b * pt.getD (wall.length - 1) 0 := Int.mul_nonneg h.b0 (by omega)
      omega
    exact nn_right (by omega) this
end K28
end
section
set_option Elab.async false
set_option linter.all false
set_option maxRecDepth 100000
set_option maxHeartbeats 4000000
set_option exponentiation.threshold 2000
namespace K28
open PySem L2
/-! the plain law: what a paper says of runs; sizes -/
theorem last_get {g : List Int} {b : Int} {n : Nat} (hg : g.length = n) : (g ++ [b]).getD (n + 1 - 1) 0 = b := by
  rw [Nat.add_sub_cancel, ← hg, snoc_eq]
/-- weights: where the first one ends the second one ends -/
theorem told_w {p r : Pg} {C Bd : Nat} (J : JIn p r C) {ps : List Pap} (h : Told p r Bd (.w ps)) {b : Int} {g : List Int} (hb : 1 ≤ b) (hg : GivenOk p b g) (he : ends_ p b g = true) : ends_ r b g = true := by
  have hgl := hg.len
  have hgl2 : g.length = r.ins.length := by rw [J.ins]; exact hgl
  have hk := (room_keeps J.ok1 hgl).mpr ⟨hg, he⟩
  rw [ends_keeps J.ok2 hgl2]
  refine List.all_eq_true.mpr fun w hw => decide_eq_true ?_
  obtain ⟨i, hi⟩ := List.mem_iff_getElem?.mp hw
  have hi2 := (List.getElem?_eq_some_iff.mp hi).1
  have hp : i < ps.length := by rw [h.1]; exact hi2
  have P := h.2 i _ w (List.getElem?_eq_getElem hp) hi
  have lw := (J.hB w hw).1
  exact pap_point (fun z hz => by rw [lw]; exact (J.hA z hz).1) P (by rw [List.length_append, lw, hgl]; rfl) (by rw [lw, last_get hgl]; exact hb) (by omega) hk
theorem keeps_false {rows : List (List Int)} {pt w : List Int} (hw : w ∈ rows) (h : dot w pt < 0) : keeps rows pt = false := by
  cases e : keeps rows pt with
  | false => rfl
  | true =>
    have := of_decide_eq_true (List.all_eq_true.mp e w hw)
    omega
/-- a point: there the first one ends and the second one trips -/
theorem told_t {p r : Pg} {C Bd : Nat} (J : JIn p r C) {b : Int} {g : List Int} (h : Told p r Bd (.t b g)) : 1 ≤ b ∧ GivenOk p b g ∧ ends_ p b g = true ∧ GivenOk r b g ∧ ends_ r b g = false ∧ ∀ x ∈ g ++ [b], x.natAbs ≤ Bd := by
  obtain ⟨w, hw, P⟩ := h
  have lw := (J.hB w hw).1
  have lp := P.len
  rw [List.length_append, lw] at lp
  have hgl : g.length = p.ins.length := Nat.succ.inj lp
  have hgl2 : g.length = r.ins.length := by rw [J.ins]; exact hgl
  have hl := P.last
  rw [lw, last_get hgl] at hl
  have hk : keeps (room p) (g ++ [b]) = true := List.all_eq_true.mpr fun z hz => decide_eq_true (P.walls z hz)
  obtain ⟨h1, h2⟩ := (room_keeps J.ok1 hgl).mp hk
  refine ⟨hl, h1, h2, ?_, ?_, P.pB⟩
  · have := (given_keeps J.ok1 hgl).mp h1
    rw [given_keeps J.ok2 hgl2, J.ins, J.facts]
    exact this
  · rw [ends_keeps J.ok2 hgl2]
    exact keeps_false hw P.wall
theorem dot_zeros : ∀ (f : List Int) (n : Nat), dot f (List.replicate n 0) = 0
  | [], n => by unfold dot; simp
  | x :: f, 0 => by unfold dot; simp
  | x :: f, n + 1 => by rw [List.replicate_succ, dot_cons, dot_zeros f n]; omega
/-- zeros never trip -/
theorem zeros_keep {r : Pg} (ok : PgOk r) : keeps (vwalls r) (List.replicate r.ins.length 0 ++ [1]) = true := by
  rw [← ends_keeps ok List.length_replicate]
  refine List.all_eq_true.mpr fun i hi => ?_
  rw [stVal_form ok List.length_replicate (List.mem_range.mp hi), dot_zeros]
  unfold fits
  refine decide_eq_true ⟨?_, by omega⟩
  split <;> omega
/-- the same with other kinds -/
theorem envF_kinds (F : Stm → Kd) (ins : List (Str × Kd)) (b : List Stm) : envF ins (b.map fun s => setK s (F s)) = envF ins b := by
  unfold envF
  rw [List.foldl_map]
  rfl
theorem formAt_kinds (F : Stm → Kd) (ins : List (Str × Kd)) (b : List Stm) (i : Nat) : formAt ins (b.map fun s => setK s (F s)) i = formAt ins b i := by
  unfold formAt
  rw [List.getElem?_map, ← List.map_take, envF_kinds]
  cases b[i]? <;> rfl
theorem kdAt_kinds (F : Stm → Kd) (b : List Stm) {i : Nat} {s : Stm} (e : b[i]? = some s) : kdAt (b.map fun s => setK s (F s)) i = F s := by
  unfold kdAt
  rw [List.getElem?_map, e]; rfl
def wider (n : Nat) (s : Stm) : Kd := ⟨s.kd.both, min 30 (s.kd.k + n)⟩
def wideP (p : Pg) (n : Nat) : Pg := { p with body := p.body.map fun s => setK s (wider n s) }
theorem wide_ok {p : Pg} (ok : PgOk p) (n : Nat) : PgOk (wideP p n) := by
  have en : bodyNames (wideP p n).body = bodyNames p.body := by unfold wideP bodyNames; rw [List.map_map]; rfl
  refine ⟨ok.ins, ok.facts, body_like ok.body en fun i s s' e1 e2 => ?_, by show (p.body.map _).length ≤ 24; rw [List.length_map]; exact ok.blen, ok.o1, ok.o2, fun x hx => ?_⟩
  · have e3 : (p.body.map fun s => setK s (wider n s))[i]? = some s' := e2
    rw [List.getElem?_map, e1] at e3
    cases Option.some.inj e3
    have so := ok.body i s e1
    have hk : 1 ≤ s.kd.k ∧ s.kd.k ≤ 30 := of_decide_eq_true so.kd
    exact ⟨decide_eq_true (show 1 ≤ min 30 (s.kd.k + n) ∧ min 30 (s.kd.k + n) ≤ 30 by omega), so.right⟩
  · have := known_get.mp (ok.o3 x hx)
    refine known_get.mpr ?_
    unfold knownS at this ⊢
    unfold bodyNames at en
    rw [en]; exact this
theorem wide_ends {p : Pg} (ok : PgOk p) {n : Nat} {b : Int} {g : List Int} (hb : 1 ≤ b) (hg : g.length = p.ins.length) (h : ends_ p b g = true) : ends_ (wideP p n) b g = true := by
  refine List.all_eq_true.mpr fun i hi => ?_
  have hi2 := List.mem_range.mp hi
  have hi3 : i < p.body.length := by
    have : (wideP p n).body.length = p.body.length := by unfold wideP; rw [List.length_map]
    omega
  have e : p.body[i]? = some p.body[i] := List.getElem?_eq_getElem hi3
  generalize p.body[i] = s at e
  have h1 := List.all_eq_true.mp h i (List.mem_range.mpr hi3)
  rw [stVal_form (wide_ok ok n) hg hi2]
  rw [stVal_form ok hg hi3, kdAt_eq e] at h1
  have e1 : formAt (wideP p n).ins (wideP p n).body i = formAt p.ins p.body i := formAt_kinds _ _ _ _
  have e2 : kdAt (wideP p n).body i = wider n s := kdAt_kinds _ _ e
  rw [e1, e2]
  have hk : 1 ≤ s.kd.k ∧ s.kd.k ≤ 30 := of_decide_eq_true (ok.body i s e).kd
  unfold fits at h1 ⊢
  obtain ⟨a1, a2⟩ := of_decide_eq_true h1
  have mono : (s.kd.k : Int) * b ≤ ((wider n s).k : Int) * b := Int.mul_le_mul_of_nonneg_right (show ((s.kd.k : Nat) : Int) ≤ ((min 30 (s.kd.k + n) : Nat) : Int) by omega) (by omega)
  refine decide_eq_true ⟨?_, by omega⟩
  show (if s.kd.both = true then -((wider n s).k : Int) * b else 0) ≤ _
  split
  · rename_i z
    rw [if_pos z, Int.neg_mul] at a1
    rw [Int.neg_mul]; omega
  · rename_i z
    rw [if_neg z] at a1
    exact a1
/-- wider kinds: no point -/
theorem wide_w {p : Pg} {n C Bd : Nat} (J : JIn p (wideP p n) C) {b : Int} {g : List Int} (h : Told p (wideP p n) Bd (.t b g)) : False := by
  obtain ⟨h1, h2, h3, _, h5, _⟩ := told_t J h
  have := wide_ends J.ok1 (n := n) h1 h2.len h3
  rw [this] at h5; cases h5
/-! sizes -/
theorem kwalls_size {f : List Int} {k : Kd} {n C : Nat} (hf : f.length = n) (hx : ∀ x ∈ f, x.natAbs ≤ C) (hk : k.k ≤ C) : ∀ w ∈ kwalls f k, w.length = n + 1 ∧ ∀ x ∈ w, x.natAbs ≤ C := by
  intro w hw
  unfold kwalls at hw
  simp only [List.mem_cons, List.not_mem_nil, or_false] at hw
  rcases hw with rfl | rfl
  · refine ⟨by rw [List.length_append]; unfold timesF; rw [List.length_map, hf]; rfl, fun x hx2 => ?_⟩
    rcases List.mem_append.mp hx2 with z | z
    · unfold timesF at z
      obtain ⟨y, hy, rfl⟩ := List.mem_map.mp z
      have := hx y hy
      omega
    · rw [List.mem_singleton.mp z]; omega
  · refine ⟨by rw [List.length_append, hf]; rfl, fun x hx2 => ?_⟩
    rcases List.mem_append.mp hx2 with z | z
    · exact hx x z
    · rw [List.mem_singleton.mp z]
      split <;> omega
theorem unit_size (n i : Nat) : ∀ x ∈ unitF n i, x.natAbs ≤ 1 := fun x hx => by
  unfold unitF at hx
  obtain ⟨y, _, rfl⟩ := List.mem_map.mp hx
  split <;> decide
theorem vwalls_size {p : Pg} (ok : PgOk p) (sm : Small p) : ∀ w ∈ vwalls p, w.length = p.ins.length + 1 ∧ ∀ x ∈ w, x.natAbs ≤ 100000 := by
  intro w hw
  unfold vwalls at hw
  obtain ⟨i, hi, hw2⟩ := List.mem_flatMap.mp hw
  have hi2 := List.mem_range.mp hi
  have e : p.body[i]? = some p.body[i] := List.getElem?_eq_getElem hi2
  have hk : 1 ≤ p.body[i].kd.k ∧ p.body[i].kd.k ≤ 30 := of_decide_eq_true (ok.body i _ e).kd
  exact kwalls_size (formAt_len ok hi2) (sm i hi2) (by rw [kdAt_eq e]; omega) w hw2
theorem room_size {p : Pg} (ok : PgOk p) (sm : Small p) : ∀ w ∈ room p, w.length = p.ins.length + 1 ∧ ∀ x ∈ w, x.natAbs ≤ 100000 := by
  intro w hw
  unfold room at hw
  rcases List.mem_append.mp hw with h | h
  · unfold inWalls at h
    rcases List.mem_append.mp h with h | h
    · obtain ⟨i, hi, hw2⟩ := List.mem_flatMap.mp h
      have hi2 := List.mem_range.mp hi
      have e : p.ins.getD i ("", ⟨true, 0⟩) = p.ins[i] := getD_of hi2
      have hk : 1 ≤ p.ins[i].2.k ∧ p.ins[i].2.k ≤ 30 := of_decide_eq_true (ok.ins.nm _ (List.getElem_mem hi2)).2
      exact kwalls_size (unitF_len _ _) (fun x hx => Nat.le_trans (unit_size _ _ x hx) (by decide)) (by rw [e]; omega) w hw2
    · obtain ⟨q, hq, rfl⟩ := List.mem_map.mp h
      unfold fwall
      refine ⟨by rw [List.length_append]; unfold sumF; rw [List.length_zipWith, unitF_len, unitF_len]; simp, fun x hx => ?_⟩
      rcases List.mem_append.mp hx with z | z
      · unfold sumF at z
        obtain ⟨i, hi, rfl⟩ := List.mem_iff_getElem.mp z
        rw [List.getElem_zipWith]
        have a1 := unit_size _ _ _ (List.getElem_mem (l := unitF p.ins.length (idxN p.ins q.2)) (n := i) (by rw [List.length_zipWith] at hi; omega))
        have a2 := unit_size _ _ _ (List.getElem_mem (l := unitF p.ins.length (idxN p.ins q.1)) (n := i) (by rw [List.length_zipWith] at hi; omega))
        omega
      · rw [List.mem_singleton.mp z]; decide
  · exact vwalls_size ok sm w h
theorem bd_small {n : Nat} (h1 : 1 ≤ n) (h3 : n ≤ 3) : bd (n + 1) 100000 < 10 ^ 60 ∧ bd (n + 1) 100000 < 2 ^ 500 := by
  have : n = 1 ∨ n = 2 ∨ n = 3 := by omega
  rcases this with rfl | rfl | rfl
  · exact ⟨by decide +kernel, by decide +kernel⟩
  · exact ⟨by decide +kernel, by decide +kernel⟩
  · exact ⟨by decide +kernel, by decide +kernel⟩
theorem jin_of {p r : Pg} (ok1 : PgOk p) (ok2 : PgOk r) (h3 : p.ins.length ≤ 3) (ei : r.ins = p.ins) (ef : r.facts = p.facts) (s1 : Small p) (s2 : Small r) : JIn p r 100000 :=
  ⟨ok1, ok2, ei, ef, room_size ok1 s1, fun w hw => by rw [← ei]; exact vwalls_size ok2 s2 w hw, by decide, (bd_small ok1.ins.in1 h3).2⟩
theorem wide_small {p : Pg} (s : Small p) (n : Nat) : Small (wideP p n) := by
  intro i hi
  have e1 : formAt (wideP p n).ins (wideP p n).body i = formAt p.ins p.body i := formAt_kinds _ _ _ _
  have hi2 : i < p.body.length := by
    have : (wideP p n).body.length = p.body.length := by unfold wideP; rw [List.length_map]
    omega
  rw [e1]
  exact s i hi2
/-- a paper's integers are short -/
theorem ints_shrt {ws : List Int} {k : Nat} (hz : ws.length ≤ 1000) (h : ∀ x ∈ ws, x.natAbs < 10 ^ 60) : (wd ws).shrt (k + 2) = true := by
  show (decide ((ws.map Dt.i).length ≤ 1000) && (ws.map Dt.i).all (Dt.shrt (k + 1))) = true
  rw [Bool.and_eq_true]
  refine ⟨decide_eq_true (by rw [List.length_map]; exact hz), List.all_eq_true.mpr fun d hd => ?_⟩
  obtain ⟨x, hx, rfl⟩ := List.mem_map.mp hd
  exact decide_eq_true (h x hx)
theorem told_short {p r : Pg} (J : JIn p r 100000) (h3 : p.ins.length ≤ 3) {tl : Tl} (h : Told p r (bd (p.ins.length + 1) 100000) tl) : tl.d.shrt 7 = true := by
  have B := (bd_small J.ok1.ins.in1 h3).1
  cases tl with
  | w ps =>
    have l1 := h.1
    rw [show (vwalls r).length = 2 * r.body.length from vw_len r r.body.length] at l1
    have hr := J.ok2.blen
    have hp := J.ok1.blen
    have lr := room_len p
    have f1 := J.ok1.facts.f1
    show (decide (2 ≤ 1000) && [Dt.s "weights", .t (ps.map papT)].all (Dt.shrt 6)) = true
    rw [List.all_cons, List.all_cons, List.all_nil, Bool.and_true]
    show (Dt.t (ps.map papT)).shrt 6 = true
    show (decide ((ps.map papT).length ≤ 1000) && (ps.map papT).all (Dt.shrt 5)) = true
    rw [Bool.and_eq_true]
    refine ⟨decide_eq_true (by rw [List.length_map]; omega), List.all_eq_true.mpr fun d hd => ?_⟩
    obtain ⟨q, hq, rfl⟩ := List.mem_map.mp hd
    obtain ⟨i, hi⟩ := List.mem_iff_getElem?.mp hq
    have hi2 := (List.getElem?_eq_some_iff.mp hi).1
    have hw : i < (vwalls r).length := by rw [← h.1]; exact hi2
    have P := h.2 i q _ hi (List.getElem?_eq_getElem hw)
    have e1 : (Dt.i q.1).shrt 4 = true := decide_eq_true (Nat.lt_of_le_of_lt P.mB B)
    have e2 : (wd q.2.1).shrt 4 = true := ints_shrt (k := 2) (by rw [P.len]; omega) (fun x hx => Nat.lt_of_le_of_lt (P.wB x hx) B)
    have e3 : (Dt.i q.2.2).shrt 4 = true := decide_eq_true (Nat.lt_of_le_of_lt P.bB B)
    show (decide (4 ≤ 1000) && [Dt.i q.1, wd q.2.1, .t [], .i q.2.2].all (Dt.shrt 4)) = true
    rw [List.all_cons, List.all_cons, List.all_cons, List.all_cons, List.all_nil, e1, e2, e3]
    rfl
  | t b g =>
    obtain ⟨_, hg, _, _, _, pB⟩ := told_t J h
    have e1 : (Dt.i b).shrt 6 = true := decide_eq_true (Nat.lt_of_le_of_lt (pB b (List.mem_append_right _ (List.mem_singleton.mpr rfl))) B)
    have e2 : (wd g).shrt 6 = true := ints_shrt (k := 4) (by rw [hg.len]; omega) (fun x hx => Nat.lt_of_le_of_lt (pB x (List.mem_append_left _ hx)) B)
    show (decide (3 ≤ 1000) && [Dt.s "trips", .i b, wd g].all (Dt.shrt 6)) = true
    rw [List.all_cons, List.all_cons, List.all_cons, List.all_nil, e1, e2]
    rfl
end K28
end
section
set_option Elab.async false
set_option linter.all false
set_option maxRecDepth 100000
set_option maxHeartbeats 4000000
set_option exponentiation.threshold 2000
namespace K28
open PySem L2
/-! runs agree with a paper -/
theorem given_other {p r : Pg} {C : Nat} (J : JIn p r C) {b : Int} {g : List Int} (h : GivenOk p b g) : GivenOk r b g := by
  have hgl2 : g.length = r.ins.length := by rw [J.ins]; exact h.len
  rw [given_keeps J.ok2 hgl2, J.ins, J.facts]
  exact (given_keeps J.ok1 h.len).mp h
theorem at_head {α : Type} (x : α) (l : List α) : atI (x :: l) 0 = some x := atI_nat (j := 0) rfl
section
variable {P : Program} {w : World} {K : PySem.W.Frag} {mg : Str → Option Value} {base : Heap}
theorem use_eqS {H : Hp} {a b : Addr} {Q : VK} (ha : H a = some (.lst [.str "ends", .str "trips"])) (hb : H b = some (.lst [.str "ends", .str "trips"])) (q : Q (.bl true) H) : kEq K (.ref a) (.ref b) H Q := by
  unfold kEq
  refine ⟨.list [.str "ends", .str "trips"], .list [.str "ends", .str "trips"], .lst (SqL.of ha) (.cons (.str _) (.cons (.str _) .nil)), .lst (SqL.of hb) (.cons (.str _) (.cons (.str _) .nil)), by decide +kernel, by decide +kernel, ?_⟩
  simpa [PyData.eqv, PyData.eqvAll] using q
def giD (q : Int × List Int) : Dt := .t [.i q.1, wd q.2]
theorem sc_law_is_kind_right : FnScope ["_law_deck_here", "_law_one", "_law_other", "_law_told", "_law_bound", "_law_some", "_law_go", "_law_given_here"] ["_law_deck_here", "_law_one", "_law_other", "_law_told"] (defScope (top 116)) := ⟨rfl, rfl, rfl, by decide +kernel, rfl, by decide +kernel, by decide +kernel⟩
def sp_kright (K : PySem.W.Frag) : Sp := fun vs H Q _ => ∃ (d c : Addr) (u v z : V) (p r : Pg) (C Bd : Nat) (tl : Tl), vs = [.ref d, u, v, z] ∧ Deck H d c ∧ PgAt K H p u ∧ PgAt K H r v ∧ JIn p r C ∧ Den K H tl.d z ∧ Told p r Bd tl ∧ ∀ H', Fr d c H H' → Q (.bl true) H'
theorem ok_law_is_kind_right (T : Tx K mg) : FnOk P w K mg base CX0 10 739 (fdA K 739) ["_law_deck_here", "_law_one", "_law_other", "_law_told"] (sp_kright K) := by
  refine (f_law_is_kind_right T).ok sc_law_is_kind_right (fun vs H Q E h => ?_) (fun cdv A outer s H vs Q E hr h => ⟨_, PSs.nox (pss_cons (ps_if (PW.pt (pw_and (pt_cmpR op_eq (pe_ix (k_ixT K) (pv 3) pe_int (fun _ _ => rfl)) pe_str (nomark _)) (pw_and1 (pt_cmpR op_ge (pe_ix (k_ixT K) (pv 3) pe_int (fun _ _ => rfl)) (pe_op op_pow pe_int pe_int) (nomark _))))) (pss_one (ps_ret pe_bl)) pss_nil)
  (pss_cons (ps_if (pt_cmpR op_eq (pe_ix (k_ixT K) (pv 3) pe_int (fun _ _ => rfl)) pe_str (nomark _)) (pss_one (ps_ret (pe_cmpR (k_eq K hr.units) (pe_lst (pa_cons (pe_ix (k_ixT K) (pe_call (ok_run T) (hr.mono (by decide)) (by rfl) (g_run T) (f_run T).kp (b_run T) .nil pass0 (pa_cons (pv 1) (pa_cons (pe_ix (k_ixT K) (pv 3) pe_int (fun _ _ => rfl)) (pa_cons (pe_ix (k_ixT K) (pv 3) pe_int (fun _ _ => rfl)) pa_nil)))) pe_int (fun _ _ => rfl)) (pa_cons (pe_ix (k_ixT K) (pe_call (ok_run T) (hr.mono (by decide)) (by rfl) (g_run T) (f_run T).kp (b_run T) .nil pass0 (pa_cons (pv 2) (pa_cons (pe_ix (k_ixT K) (pv 3) pe_int (fun _ _ => rfl)) (pa_cons (pe_ix (k_ixT K) (pv 3) pe_int (fun _ _ => rfl)) pa_nil)))) pe_int (fun _ _ => rfl)) pa_nil))) (pe_lst (pa_cons pe_str (pa_cons pe_str pa_nil))) (nomark _)))) pss_nil)
  (pss_cons (ps_set (i := 4) sc_law_is_kind_right.nd rfl (.inr rfl) (pe_call (ok_law_pick T) (hr.mono (by decide)) (by rfl) (g__law_pick T) (f_law_pick T).kp (b_law_pick T) .nil pass0 (pa_cons (pv 0) (pa_cons (pe_lst (pa_cons pe_int (pa_cons pe_int (pa_cons pe_int pa_nil)))) pa_nil))))
  (pss_cons (ps_setLc (i := 5) (own := [("_law_given_here", 7)]) rfl sc_law_is_kind_right.nd rfl rfl (sw_true rfl rfl rfl (by decide +kernel)) (k_pil K (pe_call (ok_law_all_given T) (hr.mono (by decide)) (by rfl) (g__law_all_given T) (f_law_all_given T).kp (b_law_all_given T) .nil pass0 (pa_cons (pv 1) (pa_cons (pv 4) (pa_cons pe_int pa_nil))))) (blkOk_by (N := ["_law_deck_here", "_law_one", "_law_other", "_law_told", "_law_bound", "_law_some", "_law_go", "_law_given_here"]) (sc := (defScope (top 116))) (by decide +kernel)) (fun _ _ _ _ _ => (pg_name (i := 7) sc_law_is_kind_right.nd rfl (.inl rfl) (hf := (.inr rfl)))) (fun _ _ _ _ _ => pts_nil) (fun _ _ _ _ _ => (pe_tup (pa_cons (pv 4) (pa_cons (pv 7) pa_nil)))))
  (pss_cons (ps_for PassesOwn.never rfl (pi_range1 (by rfl) (free_range T) (pa_cons pe_int pa_nil)) (pg_name (i := 6) sc_law_is_kind_right.nd rfl (.inl rfl) (hf := (.inl rfl)))
    (pss_cons (ps_set (i := 4) sc_law_is_kind_right.nd rfl (.inr rfl) (pe_op op_add pe_int (pe_call (ok_law_draw T) (hr.mono (by decide)) (by rfl) (g__law_draw T) (f_law_draw T).kp (b_law_draw T) .nil pass0 (pa_cons (pv 0) (pa_cons pe_int pa_nil)))))
  (pss_one (ps_expr (pe_bm PySem.F.plainAttrs_list PySem.F.slot_list_append PySem.F.type_list_append mt_append (pv 5) (pa_cons (pe_tup (pa_cons (pv 4) (pa_cons (pe_call (ok_law_given T) (hr.mono (by decide)) (by rfl) (g__law_given T) (f_law_given T).kp (b_law_given T) .nil pass0 (pa_cons (pv 0) (pa_cons (pv 1) (pa_cons (pv 4) pa_nil)))) pa_nil))) pa_nil))))))
  (pss_cons (ps_for PassesOwn.never rfl (k_pil K (pv 5)) (k_tgt K 2 rfl (pgs_cons (pg_name (i := 4) sc_law_is_kind_right.nd rfl (.inr rfl) (hf := (.inl rfl))) (pgs_cons (pg_name (i := 7) sc_law_is_kind_right.nd rfl (.inl rfl) (hf := (.inl rfl))) pgs_nil)))
    (pss_one (ps_if (PW.pt (pw_and (pt_cmpR op_eq (pe_ix (k_ixT K) (pe_call (ok_run T) (hr.mono (by decide)) (by rfl) (g_run T) (f_run T).kp (b_run T) .nil pass0 (pa_cons (pv 1) (pa_cons (pv 4) (pa_cons (pv 7) pa_nil)))) pe_int (fun _ _ => rfl)) pe_str (nomark _)) (pw_and1 (pt_cmpR op_ne (pe_ix (k_ixT K) (pe_call (ok_run T) (hr.mono (by decide)) (by rfl) (g_run T) (f_run T).kp (b_run T) .nil pass0 (pa_cons (pv 2) (pa_cons (pv 4) (pa_cons (pv 7) pa_nil)))) pe_int (fun _ _ => rfl)) pe_str (nomark _))))) (pss_one (ps_ret pe_bl)) pss_nil)))
  (pss_one (ps_ret pe_bl)))))))), ?_⟩)
  · obtain ⟨d, c, u, v, z, p, r, C, Bd, tl, rfl, _⟩ := h; rfl
  · obtain ⟨d, c, u, v, z, p, r, C, Bd, tl, rfl, hD, hp, hr2, J, dz, told, q⟩ := h
    cases tl with
    | t b g =>
      obtain ⟨b1, gp, ep, gr, er, _⟩ := told_t J told
      obtain ⟨az, zs, rfl, zT, zL⟩ := dz
      obtain ⟨gv, ezs, dg⟩ : ∃ gv, zs = [.str "trips", .int b, gv] ∧ Den K H (wd g) gv := by
        obtain ⟨v1, r1, e1, e2, v2, r2, e3, e4, v3, r3, e5, e6, e7⟩ := zL
        have e2' : v1 = .str "trips" := e2
        have e4' : v2 = .int b := e4
        have e7' : r3 = [] := e7
        exact ⟨v3, by rw [e1, e3, e5, e2', e4', e7'], e6⟩
      subst ezs
      refine ⟨_, rfl, az, _, _, _, rfl, rfl, zT, rfl, rfl, true, rfl, iteT ?_⟩
      refine ⟨_, rfl, az, _, _, _, rfl, rfl, zT, rfl, _, _, rfl, rfl, (show CPow 10 40 from ⟨by decide, by decide, by decide⟩), _, _, rfl, rfl, _, rfl, lastB _ (fun c1 => q _ (Fr.refl hD)) (fun c1 => ?_)⟩
      refine ⟨_, rfl, az, _, _, _, rfl, rfl, zT, rfl, rfl, true, rfl, iteT ?_⟩
      refine ⟨_, rfl, _, rfl, az, _, _, _, rfl, rfl, zT, rfl, _, rfl, az, _, _, _, rfl, rfl, zT, rfl, u, gv, p, b, g, rfl, hp, J.ok1, dg, gp, b1, fun t rest H1 s1 hT => ⟨t, _, _, _, rfl, rfl, hT, at_head _ _, ?_⟩⟩
      have zT1 := Same.ext s1 _ _ zT
      refine ⟨_, rfl, _, rfl, az, _, _, _, rfl, rfl, zT1, rfl, _, rfl, az, _, _, _, rfl, rfl, zT1, rfl, v, gv, r, b, g, rfl, hr2.same s1, J.ok2, dg.mono (Same.ext s1), gr, b1, fun t2 rest2 H2 s2 hT2 => ⟨t2, _, _, _, rfl, rfl, hT2, at_head _ _, ?_⟩⟩
      rw [ep, er]
      refine ⟨szl (show 2 ≤ 1000000 by decide), fun l1 n1 => ⟨szl (show 2 ≤ 1000000 by decide), fun l2 n2 => ?_⟩⟩
      have s3 := same_new (o := .lst [.str "ends", .str "trips"]) n1
      have s4 := same_new (o := .lst [.str "ends", .str "trips"]) n2
      have x1 : upd (upd H2 l1 (.lst [.str "ends", .str "trips"])) l2 (.lst [.str "ends", .str "trips"]) l1 = some (.lst [.str "ends", .str "trips"]) := s4 _ _ upd_same
      exact use_eqS x1 upd_same (q _ (Fr.of hD (s1.trans (s2.trans (s3.trans s4)))))
    | w ps =>
      obtain ⟨az, zs, rfl, zT, zL⟩ := dz
      obtain ⟨pv, ezs⟩ : ∃ pv, zs = [.str "weights", pv] := by
        obtain ⟨v1, r1, e1, e2, v2, r2, e3, e4, e5⟩ := zL
        have e2' : v1 = .str "weights" := e2
        have e5' : r2 = [] := e5
        exact ⟨v2, by rw [e1, e3, e2', e5']⟩
      subst ezs
      refine ⟨_, rfl, az, _, _, _, rfl, rfl, zT, rfl, rfl, false, rfl, iteF (iteF ?_)⟩
      refine ⟨_, rfl, az, _, _, _, rfl, rfl, zT, rfl, rfl, false, rfl, iteF ?_⟩
      refine ⟨_, rfl, szl (show 3 ≤ 1000000 by decide), fun l1 nl1 => ?_⟩
      have t1 := same_new (o := .lst [.int 1, .int 2, .int 1]) nl1
      obtain ⟨_, l1c⟩ := deck_ne hD nl1
      refine ⟨d, c, l1, _, rfl, hD.same t1, upd_same, l1c, (show 0 < 3 by decide), (show 3 ≤ 1000 by decide), fun i1 w1 H1 ew f1 => ?_⟩
      obtain ⟨bo, rfl, bo1, bo2⟩ : ∃ k : Int, w1 = .int k ∧ 1 ≤ k ∧ k ≤ 2 := by
        match i1, ew with
        | 0, ex => exact ⟨1, (Option.some.inj ex).symm, by decide, by decide⟩
        | 1, ex => exact ⟨2, (Option.some.inj ex).symm, by decide, by decide⟩
        | 2, ex => exact ⟨1, (Option.some.inj ex).symm, by decide, by decide⟩
      have g1 := (Fr.of hD t1).trans f1
      refine ⟨_, rfl, _, rfl, u, p, bo, rfl, hp.fr hD g1, J.ok1, bo1, by omega, fun l gs H2 s2 hl gz gok => ?_⟩
      obtain ⟨vs, ev, dv⟩ := hl
      have lv := dv.length
      rw [List.length_map] at lv
      have g2 := g1.then s2
      refine ⟨l, rfl, ⟨_, SqL.of ev⟩, fun D nD => lc_map (K := K) nD (walk_list (K := K) (a := l) (xs := vs)) (fun i => giD (bo, gs.getD i [])) (by omega) (fun Hh s => SqL.of (s _ _ ev)) ?_ ?_⟩
      · rintro i x H3 H4 Q' hi s3 ⟨rfl, ex⟩ q'
        obtain ⟨g, eg, dg⟩ := map_at1 (dv.mono (Same.ext s3)) ex
        have egd : gs.getD i [] = g := by rw [List.getD_eq_getElem?_getD, eg]; rfl
        refine ⟨rfl, _, rfl, _, rfl, szl (show 2 ≤ 1000000 by decide), fun t nt => q' _ _ (same_new nt) ?_⟩
        rw [egd]
        exact den_new nt (denL_cons rfl (denL_cons dg denL_nil))
      intro H3 zs s3 eD dL
      have g3 := g2.then s3
      have nD0 : H D = none := fr_none g2 nD
      obtain ⟨_, Dc⟩ := deck_ne hD nD0
      have e3 : (List.range vs.length).map (fun i => giD (bo, gs.getD i [])) = (gs.map fun g => (bo, g)).map giD := by
        rw [lv, map_at gs [] (fun g => giD (bo, g)), List.map_map]; rfl
      rw [e3] at dL
      refine ⟨5, rfl, by decide, by decide, ?_⟩
      refine for_range (n := 5) (fun i σ H' => ∃ (o4 o6 o7 : Option V) (qs : List (Int × List Int)), σ = [some (.ref d), some u, some v, some (.ref az), o4, some (.ref D), o6, o7] ∧ Fr d c H H' ∧ LD K H' D (qs.map giD) ∧ qs.length ≤ 80 + i ∧ ∀ q ∈ qs, 1 ≤ q.1 ∧ GivenOk p q.1 q.2)
        ⟨_, _, _, gs.map fun g => (bo, g), rfl, g3, ⟨zs, eD, dL⟩, by rw [List.length_map]; omega, fun q hq => by obtain ⟨g, hg, rfl⟩ := List.mem_map.mp hq; exact ⟨bo1, gok g hg⟩⟩ ?_ ?_
      · rintro i σ H4 hi ⟨o4, o6, o7, qs, rfl, g4, ⟨vs4, ev4, dv4⟩, qz, qok⟩
        have lv4 := dv4.length
        rw [List.length_map] at lv4
        refine ⟨_, rfl, d, c, 60, rfl, g4.deck, by decide, by decide, fun b2 H5 b20 b21 f5 => ⟨_, _, rfl, rfl, ?_⟩⟩
        have ev5 := fr_lst f5 g4.deck ev4 Dc
        refine ⟨_, rfl, .inl ⟨rfl, _, SqL.of ev5⟩, _, rfl, _, rfl, _, rfl, _, rfl, d, c, u, p, 1 + b2, rfl, f5.deck, hp.fr hD (g4.trans f5), J.ok1, by omega, by omega, fun gv g H6 f6 dg gk => ⟨szl (show 2 ≤ 1000000 by decide), fun t nt => ?_⟩⟩
        have ev6 := fr_lst f6 f5.deck ev5 Dc
        have u1 := same_new (o := .tup [.int (1 + b2), gv]) nt
        have ev7 := u1 _ _ ev6
        have f47 := (f5.trans f6).then u1
        have dq : Den K _ (giD (1 + b2, g)) (.ref t) := den_new (K := K) (l := [.i (1 + b2), wd g]) nt (denL_cons rfl (denL_cons dg denL_nil))
        refine ⟨D, _, _, rfl, rfl, ev7, szlt (by omega), _, _, _, qs ++ [(1 + b2, g)], rfl, fr_upd hD (g4.trans f47) nD0, ⟨_, upd_same, ?_⟩, by rw [List.length_append]; simp only [List.length_singleton]; omega, fun q hq => ?_⟩
        · rw [List.map_append]
          exact (denL_snoc (dv4.mono (f47.ext g4.deck)) dq).mono (ext_upd ev7 rfl)
        · rcases List.mem_append.mp hq with h | h
          · exact qok q h
          · rw [List.mem_singleton.mp h]
            exact ⟨by show 1 ≤ 1 + b2; omega, gk⟩
      · rintro σ H4 ⟨o4, o6, o7, qs, rfl, g4, ⟨vs4, ev4, dv4⟩, qz, qok⟩
        refine ⟨_, rfl, D, rfl, ⟨_, SqL.of ev4⟩, ?_⟩
        refine for_it (walk_list (K := K) (a := D) (xs := vs4)) (fun i σ H' => (∃ (o4 o6 o7 : Option V), σ = [some (.ref d), some u, some v, some (.ref az), o4, some (.ref D), o6, o7]) ∧ Same H4 H') ⟨⟨_, _, _, rfl⟩, Same.refl _⟩ (fun i σ H' _ h => SqL.of (h.2 _ _ ev4)) ?_ ?_
        · rintro i x σ H5 H6 hi ⟨⟨o4, o6, o7, rfl⟩, s5⟩ ⟨rfl, ex⟩
          obtain ⟨⟨b, g⟩, eq, dq⟩ := map_at1 (dv4.mono (Same.ext s5)) ex
          obtain ⟨hb, gk⟩ := qok _ (List.mem_of_getElem? eq)
          obtain ⟨aq, ws, rfl, qT, qL⟩ := dq
          obtain ⟨gv, ews, dg⟩ : ∃ gv, ws = [.int b, gv] ∧ Den K H6 (wd g) gv := by
            obtain ⟨v1, r1, e1, e2, v2, r2, e3, e4, e5⟩ := qL
            have e2' : v1 = .int b := e2
            have e5' : r2 = [] := e5
            exact ⟨v2, by rw [e1, e3, e2', e5'], e4⟩
          subst ews
          have hp6 := (hp.fr hD g4).same s5
          have hr6 := (hr2.fr hD g4).same s5
          refine g_pair qT ?_
          refine ⟨_, rfl, _, rfl, _, rfl, u, gv, p, b, g, rfl, hp6, J.ok1, dg, gk, hb, fun t rest H7 s7 hT => ⟨t, _, _, _, rfl, rfl, hT, at_head _ _, ?_⟩⟩
          cases ee : ends_ p b g with
          | false => exact ⟨rfl, false, rfl, iteF (iteF ⟨⟨_, _, _, rfl⟩, s5.trans s7⟩)⟩
          | true =>
            have er := told_w J told hb gk ee
            refine ⟨rfl, true, rfl, iteT ?_⟩
            refine ⟨_, rfl, _, rfl, _, rfl, v, gv, r, b, g, rfl, hr6.same s7, J.ok2, dg.mono (Same.ext s7), given_other J gk, hb, fun t2 rest2 H8 s8 hT2 => ⟨t2, _, _, _, rfl, rfl, hT2, at_head _ _, ?_⟩⟩
            rw [er]
            exact ⟨rfl, false, rfl, iteF ⟨⟨_, _, _, rfl⟩, s5.trans (s7.trans s8)⟩⟩
        · rintro σ H5 ⟨⟨o4, o6, o7, rfl⟩, s5⟩
          exact q _ (g4.then s5)
end
end K28
end
section
set_option Elab.async false
set_option linter.all false
set_option maxRecDepth 100000
set_option maxHeartbeats 4000000
set_option exponentiation.threshold 2000
namespace K28
open PySem L2
/-! the law -/
theorem cut_goal {R Q : V → Hp → Prop} {G : Prop} (h : (∀ y H', R y H' → Q y H') → G) (n : ∀ y H', R y H' → Q y H') : G := h n
section
variable {P : Program} {w : World} {K : PySem.W.Frag} {mg : Str → Option Value} {base : Heap}
theorem holds_of {H : Hp} {u v z : V} {p r : Pg} {tl : Tl} {Q : VK} {E : XK} (hp : PgAt K H p u) (hr : PgAt K H r v) (J : JIn p r 100000) (dz : Den K H tl.d z) (told : Told p r (bd (p.ins.length + 1) 100000) tl) (q : ∀ H', Same H H' → Q (.bl true) H') : sp_holds K [u, v, z] H Q E := by
  refine ⟨u, v, z, p, r, 100000, tl, rfl, hp, hr, J, dz, ?_⟩
  cases tl with
  | w ps => exact ⟨told, q⟩
  | t b g =>
    obtain ⟨b1, gp, ep, gr, er, pB⟩ := told_t J told
    have hgl2 : g.length = r.ins.length := by rw [J.ins]; exact gp.len
    refine ⟨b1, gp.len, fun x hx => ?_, fun H' s => ?_⟩
    · have h1 := pB x hx
      have h2 := J.hF
      have h3 : (2 : Nat) ^ 500 ≤ 2 ^ 1000 := Nat.pow_le_pow_right (by decide) (by decide)
      omega
    · have e1 : keeps (room p) (g ++ [b]) = true := (room_keeps J.ok1 gp.len).mpr ⟨gp, ep⟩
      have e2 : keeps (vwalls r) (g ++ [b]) = false := by rw [← ends_keeps J.ok2 hgl2]; exact er
      rw [e1, e2]
      exact q H' s
theorem holds_zero {H : Hp} {u v z : V} {p r : Pg} {Q : VK} {E : XK} (hp : PgAt K H p u) (hr : PgAt K H r v) (J : JIn p r 100000) (dz : Den K H (Tl.t 1 (List.replicate p.ins.length 0)).d z) (q : ∀ H', Same H H' → Q (.bl false) H') : sp_holds K [u, v, z] H Q E := by
  refine ⟨u, v, z, p, r, 100000, .t 1 (List.replicate p.ins.length 0), rfl, hp, hr, J, dz, ?_⟩
  refine ⟨Int.le_refl _, List.length_replicate, fun x hx => ?_, fun H' s => ?_⟩
  · have h3 : (1 : Nat) < 2 ^ 1000 := by decide +kernel
    rcases List.mem_append.mp hx with h | h
    · rw [(List.mem_replicate.mp h).2]; exact Nat.lt_trans (by decide) h3
    · rw [List.mem_singleton.mp h]; exact h3
  · have e2 : keeps (vwalls r) (List.replicate p.ins.length 0 ++ [1]) = true := by rw [← J.ins]; exact zeros_keep J.ok2
    rw [e2]
    cases keeps (room p) (List.replicate p.ins.length 0 ++ [1]) <;> exact q H' s
theorem sc_law : FnScope ["_law_script", "_law_deck_here", "_law_go", "_law_one", "_law_other", "_law_told", "_law_wide", "_law_it"] ["_law_script"] (defScope (top 117)) := ⟨rfl, rfl, rfl, by decide +kernel, rfl, by decide +kernel, by decide +kernel⟩
def sp_law (K : PySem.W.Frag) : Sp := fun vs H Q _ => ∃ (a : Addr) (ns : List Int), vs = [.ref a] ∧ SqL K H a (ns.map V.int) ∧ ns.length ≤ 100000 ∧ ∀ H', Q (.bl true) H'
theorem ok_law (T : Tx K mg) : FnOk P w K mg base CX0 11 744 (fdA K 744) ["_law_script"] (sp_law K) := by
  refine (f_law T).ok sc_law (fun vs H Q E h => ?_) (fun cdv A outer s H vs Q E hr h => ⟨_, PSs.nox (pss_cons (ps_set (i := 1) sc_law.nd rfl (.inl rfl) (pe_call (ok_law_deck T) (hr.mono (by decide)) (by rfl) (g__law_deck T) (f_law_deck T).kp (b_law_deck T) .nil pass0 (pa_cons (pv 0) pa_nil)))
  (pss_cons (ps_for PassesOwn.never rfl (pi_range1 (by rfl) (free_range T) (pa_cons pe_int pa_nil)) (pg_name (i := 2) sc_law.nd rfl (.inr rfl) (hf := (.inl rfl)))
    (pss_cons (ps_set (i := 3) sc_law.nd rfl (.inl rfl) (pe_call (ok_law_single T) (hr.mono (by decide)) (by rfl) (g__law_single T) (f_law_single T).kp (b_law_single T) .nil pass0 (pa_cons (pv 1) (pa_cons pe_int (pa_cons pe_int pa_nil)))))
  (pss_cons (ps_set (i := 4) sc_law.nd rfl (.inl rfl) (pe_call (ok_law_same_ins T) (hr.mono (by decide)) (by rfl) (g__law_same_ins T) (f_law_same_ins T).kp (b_law_same_ins T) .nil pass0 (pa_cons (pv 1) (pa_cons (pv 3) pa_nil))))
  (pss_cons (ps_if (PW.pt (pw_or (pt_not (pt_val (pe_call (ok_law_is_small T) (hr.mono (by decide)) (by rfl) (g__law_is_small T) (f_law_is_small T).kp (b_law_is_small T) .nil pass0 (pa_cons (pv 3) pa_nil)))) (pw_or1 (pt_not (pt_val (pe_call (ok_law_is_small T) (hr.mono (by decide)) (by rfl) (g__law_is_small T) (f_law_is_small T).kp (b_law_is_small T) .nil pass0 (pa_cons (pv 4) pa_nil))))))) (pss_one ps_continue) pss_nil)
  (pss_cons (ps_set (i := 5) sc_law.nd rfl (.inl rfl) (pe_ifExp (pt_cmpR op_eq (pe_call (ok_law_draw T) (hr.mono (by decide)) (by rfl) (g__law_draw T) (f_law_draw T).kp (b_law_draw T) .nil pass0 (pa_cons (pv 1) (pa_cons pe_int pa_nil))) pe_int (nomark _)) (pe_call (ok_judge_never_more T) (hr.mono (by decide)) (by rfl) (g_judge_never_more T) (f_judge_never_more T).kp (b_judge_never_more T) .nil pass0 (pa_cons (pv 3) (pa_cons (pv 4) pa_nil))) (pe_callKW (ok_judge_never_more T) (hr.mono (by decide)) (by rfl) (g_judge_never_more T) (f_judge_never_more T).kp (kb_judge_never_more T) pass0 (pk_cons (pv 4) (pk_cons (pv 3) pk_nil)) (by rfl))))
  (pss_cons (ps_if (PW.pt (pw_or (pt_not (pt_val (pe_call (ok_law_is_paper T) (hr.mono (by decide)) (by rfl) (g__law_is_paper T) (f_law_is_paper T).kp (b_law_is_paper T) .nil pass0 (pa_cons (pv 3) (pa_cons (pv 4) (pa_cons (pv 5) pa_nil)))))) (pw_or1 (pt_not (pt_val (pe_call (ok_law_are_short T) (hr.mono (by decide)) (by rfl) (g__law_are_short T) (f_law_are_short T).kp (b_law_are_short T) .nil pass0 (pa_cons (pv 5) pa_nil))))))) (pss_one (ps_ret pe_bl)) pss_nil)
  (pss_cons (ps_if (pt_not (pt_val (pe_call (ok_law_is_kind_right T) (hr.mono (by decide)) (by rfl) (g__law_is_kind_right T) (f_law_is_kind_right T).kp (b_law_is_kind_right T) .nil pass0 (pa_cons (pv 1) (pa_cons (pv 3) (pa_cons (pv 4) (pa_cons (pv 5) pa_nil))))))) (pss_one (ps_ret pe_bl)) pss_nil)
  (pss_cons (ps_if (pt_cmpR op_isnot_bl (pe_call (ok_never_more_holds T) (hr.mono (by decide)) (by rfl) (g_never_more_holds T) (f_never_more_holds T).kp (b_never_more_holds T) .nil pass0 (pa_cons (pv 3) (pa_cons (pv 4) (pa_cons (pv 5) pa_nil)))) pe_bl (nomark _)) (pss_one (ps_ret pe_bl)) pss_nil)
  (pss_cons (ps_if (pt_cmpR op_isnot_bl (pe_call (ok_never_more_holds T) (hr.mono (by decide)) (by rfl) (g_never_more_holds T) (f_never_more_holds T).kp (b_never_more_holds T) .nil pass0 (pa_cons (pv 3) (pa_cons (pv 4) (pa_cons (pe_tup (pa_cons pe_str (pa_cons pe_int (pa_cons (pe_op (k_rep K) (pe_tup (pa_cons pe_int pa_nil)) (pe_callB (k_len K) (by rfl) (free_len T) (by decide +kernel) (pa_cons (pe_ix (k_ixT K) (pv 3) pe_int (fun _ _ => rfl)) pa_nil))) pa_nil)))) pa_nil)))) pe_bl (nomark _)) (pss_one (ps_ret pe_bl)) pss_nil)
  (pss_cons (ps_set (i := 6) sc_law.nd rfl (.inl rfl) (pe_callTy (k_tuple K) (by rfl) (free_tuple T) (by decide +kernel) (pa_cons (pe_lc (own := [("_law_it", 7)]) rfl sc_law.nd (k_pit K (pe_ix (k_ixT K) (pv 3) pe_int (fun _ _ => rfl))) (blkOk_by (N := ["_law_script", "_law_deck_here", "_law_go", "_law_one", "_law_other", "_law_told", "_law_wide", "_law_it"]) (sc := (defScope (top 117))) (by decide +kernel)) (fun _ _ _ _ _ => (pg_name (i := 7) sc_law.nd rfl (.inl rfl) (hf := (.inr rfl)))) (fun _ _ _ _ _ => pts_nil) (fun _ _ _ _ _ => (pe_op (k_cat K) (pe_op (k_cat K) (pe_slice (k_slT K) (pv 7) po_none (po_some pe_int)) (pe_tup (pa_cons (pe_tup (pa_cons (pe_ix (k_ixT K) (pe_ix (k_ixT K) (pv 7) pe_int (fun _ _ => rfl)) pe_int (fun _ _ => rfl)) (pa_cons (pe_callB (call_min2 rfl) (by rfl) (free_min T) (by decide +kernel) (pa_cons pe_int (pa_cons (pe_op op_add (pe_ix (k_ixT K) (pe_ix (k_ixT K) (pv 7) pe_int (fun _ _ => rfl)) pe_int (fun _ _ => rfl)) (pv 2)) pa_nil))) pa_nil))) pa_nil))) (pe_slice (k_slT K) (pv 7) (po_some pe_int) po_none)))) pa_nil)))
  (pss_one (ps_if (pt_cmpR op_eq (pv 2) pe_int (nomark _)) (pss_cons (ps_set (i := 4) sc_law.nd rfl (.inl rfl) (pe_tup (pa_cons (pe_ix (k_ixT K) (pv 3) pe_int (fun _ _ => rfl)) (pa_cons (pe_ix (k_ixT K) (pv 3) pe_int (fun _ _ => rfl)) (pa_cons (pv 6) (pa_cons (pe_ix (k_ixT K) (pv 3) pe_int (fun _ _ => rfl)) pa_nil))))))
  (pss_cons (ps_set (i := 5) sc_law.nd rfl (.inl rfl) (pe_call (ok_judge_never_more T) (hr.mono (by decide)) (by rfl) (g_judge_never_more T) (f_judge_never_more T).kp (b_judge_never_more T) .nil pass0 (pa_cons (pv 3) (pa_cons (pv 4) pa_nil))))
  (pss_one (ps_if (PW.pt (pw_or (pt_not (pt_val (pe_call (ok_law_is_paper T) (hr.mono (by decide)) (by rfl) (g__law_is_paper T) (f_law_is_paper T).kp (b_law_is_paper T) .nil pass0 (pa_cons (pv 3) (pa_cons (pv 4) (pa_cons (pv 5) pa_nil)))))) (pw_or1 (pt_cmpR op_ne (pe_ix (k_ixT K) (pv 5) pe_int (fun _ _ => rfl)) pe_str (nomark _))))) (pss_one (ps_ret pe_bl)) pss_nil)))) pss_nil))))))))))))
  (pss_one (ps_ret pe_bl)))), ?_⟩)
  · obtain ⟨a, ns, rfl, _⟩ := h; rfl
  · obtain ⟨a, ns, rfl, hA, hz, q⟩ := h
    refine ⟨_, rfl, a, ns, rfl, hA, hz, fun d c H1 s1 nd nc hD1 => ?_⟩
    refine ⟨2, rfl, by decide, by decide, ?_⟩
    refine for_range (n := 2) (fun i σ H' => (∃ o2 o3 o4 o5 o6 o7, σ = [some (.ref a), some (.ref d), o2, o3, o4, o5, o6, o7]) ∧ Deck H' d c) ⟨⟨_, _, _, _, _, _, rfl⟩, hD1⟩ ?_ ?_
    · rintro go σ H2 hgo ⟨⟨o2, o3, o4, o5, o6, o7, rfl⟩, hD2⟩
      refine ⟨_, rfl, d, c, 5, 3, rfl, hD2, by decide, by decide, by decide, fun v p H3 f3 hp3 sg => ?_⟩
      refine ⟨_, rfl, _, rfl, d, c, v, p, rfl, f3.deck, hp3, sg, fun v2 r H4 f4 hr4 okr ei ef => ?_⟩
      have ok := sg.ok
      have hp4 := hp3.fr f3.deck f4
      have hD4 := f4.deck
      refine ⟨_, rfl, v, p, rfl, hp4, ok, fun b1 H5 s5 hb1 => ⟨b1, rfl, ?_⟩⟩
      cases b1 with
      | false => exact iteT (iteT ⟨⟨_, _, _, _, _, _, rfl⟩, hD4.same s5⟩)
      | true =>
      refine iteF ⟨_, rfl, v2, r, rfl, hr4.same s5, okr, fun b2 H6 s6 hb2 => ⟨b2, rfl, ?_⟩⟩
      cases b2 with
      | false => exact iteT ⟨⟨_, _, _, _, _, _, rfl⟩, hD4.same (s5.trans s6)⟩
      | true =>
      have sm1 := hb1 rfl
      have sm2 := hb2 rfl
      have J : JIn p r 100000 := jin_of ok okr sg.il ei ef sm1 sm2
      have s46 := s5.trans s6
      have hD6 := hD4.same s46
      have hp6 := hp4.same s46
      have hr6 := hr4.same s46
      refine iteF ?_
      refine cut_goal (R := fun y H' => ∃ tl : Tl, Fr d c H6 H' ∧ Den K H' tl.d y ∧ Told p r (bd (p.ins.length + 1) 100000) tl) (fun nxt => ⟨_, rfl, d, c, 2, rfl, hD6, by decide, by decide, fun rr H7 r0 r1 f7 => ⟨rfl, _, rfl, lastB _ (fun c1 => ⟨_, rfl, _, rfl, v, v2, p, r, 100000, rfl, hp6.fr hD6 f7, hr6.fr hD6 f7, J, fun y H8 tl s8 dy told => nxt y H8 ⟨tl, f7.then s8, dy, told⟩⟩) (fun c1 => ⟨_, rfl, _, rfl, rfl, rfl, v, v2, p, r, 100000, rfl, hp6.fr hD6 f7, hr6.fr hD6 f7, J, fun y H8 tl s8 dy told => nxt y H8 ⟨tl, f7.then s8, dy, told⟩⟩)⟩⟩) ?_
      rintro z H8 ⟨tl, f8, dz, told⟩
      have hD8 := f8.deck
      have hp8 := hp6.fr hD6 f8
      have hr8 := hr6.fr hD6 f8
      refine ⟨_, rfl, _, rfl, _, rfl, v, v2, z, p, r, 100000, tl, rfl, hp8, hr8, J, dz, told, fun H9 s9 => ⟨true, rfl, iteF ?_⟩⟩
      refine ⟨_, rfl, z, tl.d, rfl, dz.mono (Same.ext s9), told_short J sg.il told, fun H10 s10 => ⟨true, rfl, iteF ?_⟩⟩
      have s810 := s9.trans s10
      refine ⟨_, rfl, _, rfl, _, rfl, _, rfl, d, c, v, v2, z, p, r, 100000, _, tl, rfl, hD8.same s810, hp8.same s810, hr8.same s810, J, dz.mono (Same.ext s810), told, fun H11 f11 => ⟨true, rfl, iteF ?_⟩⟩
      have f811 := (Fr.of hD8 s810).trans f11
      refine ⟨_, rfl, _, rfl, _, rfl, ?_⟩
      dsimp only [tNil, List.cons_append, List.nil_append]
      refine holds_of (hp8.fr hD8 f811) (hr8.fr hD8 f811) J (dz.mono (f811.ext hD8)) told fun H12 s12 => ⟨_, _, rfl, rfl, false, rfl, iteF ?_⟩
      have f812 := f811.then s12
      have hp12 := hp8.fr hD8 f812
      have hr12 := hr8.fr hD8 f812
      obtain ⟨pa, x1, x2, x3, x4, rfl, pp⟩ := id hp12
      obtain ⟨ai, us, rfl, iT, iL⟩ := id pp.ins.den
      have li := iL.length
      rw [List.length_map] at li
      have i2 := ok.ins.in2
      refine ⟨_, rfl, _, rfl, szl (show 1 ≤ 1000000 by decide), fun t1 n1 => ⟨_, rfl, pa, _, _, _, rfl, rfl, Same.ext (same_new n1) _ _ pp.tup, rfl, ai, us, rfl, .inr (Same.ext (same_new n1) _ _ iT), ?_⟩⟩
      have u1 := same_new (o := .tup [.int 0]) n1
      refine rep_zero (.inl (.inl upd_same)) (by omega) (by omega) fun cz H13 s13 hz => ⟨szl (show 3 ≤ 1000000 by decide), fun t3 n3 => ?_⟩
      have u3 := same_new (o := .tup [.str "trips", .int 1, .ref cz]) n3
      have e1 : ((us.length : Int)).toNat = p.ins.length := by omega
      rw [e1] at hz
      have sz := u1.trans (s13.trans u3)
      have dzz : Den K _ (Tl.t 1 (List.replicate p.ins.length 0)).d (.ref t3) := den_new (K := K) (l := [.s "trips", .i 1, wd (List.replicate p.ins.length 0)]) n3 (denL_cons rfl (denL_cons rfl (denL_cons (den_wd hz) denL_nil)))
      dsimp only [tNil, List.cons_append, List.nil_append]
      refine holds_zero (hp12.same sz) (hr12.same sz) J dzz fun H14 s14 => ⟨_, _, rfl, rfl, false, rfl, iteF ?_⟩
      have s1214 := sz.trans s14
      have hp14 := hp12.same s1214
      have pp14 := pp.same s1214
      have hD14 := (f812.then s1214).deck
      -- wider kinds
      obtain ⟨ab, bs, rfl, bT, bL⟩ := id pp14.body
      have lb := bL.length
      rw [List.length_map] at lb
      have bl := ok.blen
      refine ⟨_, rfl, pa, _, _, _, rfl, rfl, pp14.tup, rfl, ab, rfl, ⟨bs, bT⟩, fun D nD => lc_map (K := K) nD (walk_tup (K := K) (a := ab) (xs := bs)) (fun i => (setK (p.body.getD i ⟨.plus, "", ⟨true, 0⟩, 0, "", ""⟩) (wider go (p.body.getD i ⟨.plus, "", ⟨true, 0⟩, 0, "", ""⟩))).d) (by omega) (fun Hh s => Same.ext s _ _ bT) ?_ ?_⟩
      · rintro i x H15 H16 Q' hi s15 ⟨rfl, ex⟩ q'
        obtain ⟨s', es', ds'⟩ := map_at1 (bL.mono (Same.ext s15)) ex
        have egd : p.body.getD i ⟨.plus, "", ⟨true, 0⟩, 0, "", ""⟩ = s' := by rw [List.getD_eq_getElem?_getD, es']; rfl
        rw [egd] at q'
        obtain ⟨ap, yk, m', rfl, pT, hyk, hm'⟩ := st_den ds'
        obtain ⟨ak, rfl, kT⟩ := kd_den hyk
        refine ⟨rfl, _, rfl, _, rfl, use_slHead (k := 2) ds' (show 2 ≤ 5 by decide) fun cA HA sA hcA => ?_⟩
        have xA := Same.ext (K := K) sA
        refine ⟨_, rfl, ap, _, _, _, rfl, rfl, xA _ _ pT, rfl, ak, _, _, _, rfl, rfl, xA _ _ kT, rfl, _, rfl, ap, _, _, _, rfl, rfl, xA _ _ pT, rfl, ak, _, _, _, rfl, rfl, xA _ _ kT, rfl, ?_⟩
        refine ⟨_, rfl, _, _, rfl, rfl, _, _, rfl, szl (show 2 ≤ 1000000 by decide), fun t2 n2 => ⟨szl (show 1 ≤ 1000000 by decide), fun t1 n1 => ?_⟩⟩
        have ekn : (if (s'.kd.k : Int) + (0 + (go : Int)) < 30 then (s'.kd.k : Int) + (0 + (go : Int)) else 30) = ((min 30 (s'.kd.k + go) : Nat) : Int) := by split <;> omega
        have e2 : (V.int (if (s'.kd.k : Int) + (0 + (go : Int)) < 30 then (s'.kd.k : Int) + (0 + (go : Int)) else 30)) = V.int ((min 30 (s'.kd.k + go) : Nat) : Int) := congrArg V.int ekn
        have dk : Den K (upd HA t2 (.tup [.str (if s'.kd.both then "both" else "up"), .int (if (s'.kd.k : Int) + (0 + (go : Int)) < 30 then (s'.kd.k : Int) + (0 + (go : Int)) else 30)])) (wider go s').d (.ref t2) := by
          rw [e2]; exact den_kd n2
        have u2 := same_new (o := .tup [.str (if s'.kd.both then "both" else "up"), .int (if (s'.kd.k : Int) + (0 + (go : Int)) < 30 then (s'.kd.k : Int) + (0 + (go : Int)) else 30)]) n2
        have u1 := same_new (o := .tup [.ref t2]) n1
        refine cat_den (hcA.mono (Same.ext (u2.trans u1))) (den_tup1 n1 dk) (by simp) fun cE HE sE hcE => ?_
        have sF := sA.trans (u2.trans (u1.trans sE))
        refine ⟨_, rfl, _, rfl, use_slTail (k := 3) (ds'.mono (Same.ext sF)) (show 3 ≤ 5 by decide) fun cF HF sG hcF => ?_⟩
        refine cat_den (hcE.mono (Same.ext sG)) hcF (by simp) fun cG HG sH hcG => ?_
        exact q' _ _ (sF.trans (sG.trans sH)) hcG
      intro H15 zs s15 eD dL
      have eb : (List.range bs.length).map (fun i => (setK (p.body.getD i ⟨.plus, "", ⟨true, 0⟩, 0, "", ""⟩) (wider go (p.body.getD i ⟨.plus, "", ⟨true, 0⟩, 0, "", ""⟩))).d) = (wideP p go).body.map Stm.d := by
        rw [lb, map_at p.body ⟨.plus, "", ⟨true, 0⟩, 0, "", ""⟩ (fun s => (setK s (wider go s)).d)]
        unfold wideP
        rw [List.map_map]; rfl
      rw [eb] at dL
      refine ⟨D, zs, rfl, .inl ⟨SqL.of eD, fun tw ntw => ?_⟩⟩
      have dW : Den K _ (bodyD (wideP p go).body) (.ref tw) := den_new (K := K) ntw dL
      have s16 := s15.trans (same_new (o := .tup zs) ntw)
      have hD16 := hD14.same s16
      have pp16 := pp14.same s16
      generalize upd H15 tw (.tup zs) = H16 at dW s16 hD16 pp16 ⊢
      refine ⟨_, rfl, rfl, _, rfl, lastB _ (fun c1 => ?_) (fun c1 => ⟨⟨_, _, _, _, _, _, rfl⟩, hD16⟩)⟩
      refine ⟨_, rfl, pa, _, _, _, rfl, rfl, pp16.tup, rfl, _, rfl, pa, _, _, _, rfl, rfl, pp16.tup, rfl, _, rfl, _, rfl, pa, _, _, _, rfl, rfl, pp16.tup, rfl, szl (show 4 ≤ 1000000 by decide), fun tn ntn => ?_⟩
      have u4 := same_new (o := .tup [.ref ai, x2, .ref tw, x4]) ntn
      have pp17 := pp16.same u4
      have hW : PgAt K (upd H16 tn (.tup [.ref ai, x2, .ref tw, x4])) (wideP p go) (.ref tn) := ⟨tn, _, _, _, _, rfl, .inl (.inl upd_same), pp17.ins, pp17.facts, dW.mono (Same.ext u4), pp17.outs⟩
      have JW : JIn p (wideP p go) 100000 := jin_of ok (wide_ok ok go) sg.il rfl rfl sm1 (wide_small sm1 go)
      have hD17 := hD16.same u4
      refine ⟨_, rfl, _, rfl, .ref pa, .ref tn, p, wideP p go, 100000, rfl, ⟨pa, _, _, _, _, rfl, pp17⟩, hW, JW, fun y H18 tl2 s18 dy told2 => ?_⟩
      cases tl2 with
      | t b g => exact (wide_w JW told2).elim
      | w ps =>
        refine ⟨_, rfl, _, rfl, _, rfl, .ref pa, .ref tn, y, p, wideP p go, 100000, .w ps, rfl, ⟨pa, _, _, _, _, rfl, pp17.same s18⟩, hW.same s18, JW, dy, told2, fun H19 s19 => ⟨true, rfl, iteF ?_⟩⟩
        obtain ⟨az, zs2, rfl, zT, zL⟩ := dy.mono (Same.ext s19)
        obtain ⟨pv, ezs⟩ : ∃ pv, zs2 = [.str "weights", pv] := by
          obtain ⟨v1, r1, e1, e2, v2, r2, e3, e4, e5⟩ := zL
          have e2' : v1 = .str "weights" := e2
          have e5' : r2 = [] := e5
          exact ⟨v2, by rw [e1, e3, e2', e5']⟩
        subst ezs
        exact ⟨_, rfl, az, _, _, _, rfl, rfl, zT, rfl, rfl, false, rfl, iteF ⟨⟨_, _, _, _, _, _, rfl⟩, hD17.same (s18.trans s19)⟩⟩
    · rintro σ H2 ⟨⟨o2, o3, o4, o5, o6, o7, rfl⟩, hD2⟩
      exact q H2
end
end K28
end
section
set_option Elab.async false
set_option linter.all false
set_option maxRecDepth 100000
set_option maxHeartbeats 0
namespace K28
open PySem PySem.Spec PyProof.Rows L2
theorem law_facts {P : Program} {w : World} {K : PySem.W.Frag} {h : Heap} {mg : Str → Option Value} {f : Addr} (X : K.In h) (G : h.Ns mainGlobals mg) (hfa : mg ("law" : Str) = some (.ref f)) (c : seesK K = seesV) :
    ∃ fd : FuncData, (∀ (s : Shared) (v : Value), BindsTo s fd ⟨[v], []⟩ [("_law_script", v)]) ∧ ∀ base : Heap, K.In base → base.Ns mainGlobals mg → FnOk P w K mg base CX0 11 f fd ["_law_script"] (sp_law K) := by
  have T : Tx K mg := tx_of X G c
  have e := hfa.symm.trans (g_law T)
  cases e
  have b := FunD.bindsA (ps := ["_law_script"]) (f_law T) fun _ _ _ _ _ _ us hl => match us, hl with | [_], _ => by kernel_rfl
  exact ⟨_, fun s v => b s [v] rfl, fun base _ _ => ok_law T⟩
end K28
open PySem PySem.W PySem.Calls PyProof.Rows
theorem PySem.Challenge.cw_tripmeans_k28_whole_never_more_against_r_holds : PySem.Challenge.rw_tripmeans_k28_whole_never_more_against_r.Holds := by
  w_on; o_law
  refine K28.head_imp (r := OpenLaw.row PySem.Challenge.rw_tripmeans_k28_whole_never_more_against_r) (q := K28.qv) (H := K28.hk) (ob := K28.ob) (M := 20000) (loose := K28.loose) (d := HandSHeadRun.topDef (OpenLaw.row PySem.Challenge.rw_tripmeans_k28_whole_never_more_against_r).prog 117) (kwd := []) K28.ob_eq K28.run
    (by kernel_rfl) (by kernel_rfl) (by kernel_rfl) (by rfl) (by first | assumption | decide +kernel) (by decide +kernel) ⟨rfl, rfl, rfl, rfl, rfl, by decide +kernel⟩ ?hw ?hc
  case hw => w_witness2
  case hc =>
    refine L2.walk_ofE (l := PySem.Challenge.rw_tripmeans_k28_whole_never_more_against_r) (n := 63) (k := 11) (x := "_law_script") (CX := L2.CX0) rfl (by decide) (by kernel_rfl) ⟨rfl, by decide, by decide⟩ ?F (fun _ _ _ _ z => z)
    intro w mg fa h Y G hmg0
    obtain ⟨K, KX, c⟩ := Y
    have hmg : mg ("law" : PySem.Str) = some (.ref fa) := by
      have e : (HandSHeadRun.topDef (OpenLaw.row PySem.Challenge.rw_tripmeans_k28_whole_never_more_against_r).prog 117).name = ("law" : PySem.Str) := by kernel_rfl
      rw [← e]
      exact hmg0
    obtain ⟨fd, hb, hF⟩ := K28.law_facts (P := (PySem.Challenge.rw_tripmeans_k28_whole_never_more_against_r).prog) (w := w) KX G hmg c
    exact ⟨K, fd, K28.sp_law K, KX, hb, fun H a ns hl _ hS => ⟨a, ns, rfl, hS, Nat.le_trans hl (by decide), fun _ => rfl⟩, hF⟩
end
