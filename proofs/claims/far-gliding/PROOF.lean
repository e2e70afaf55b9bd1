import PyProof.Rows.All
import Wide.All
import OpenK.AllK
import Wide.FinOn
import KE.KStateDown
import Lean
import HandS.ForMost
import HandS.Defaults
import HandS.Wide
import HandS.WideBits
import HandS.Flow
import HandS.SetKeys
import HandS.IsInst
import HandS.Walk
import HandS.Codes
import HandS.CallLocal
import HandS.Lambda
import HandS.Nested
import HandS.NestedK
import HandS.EndBits
import HandS.EndTab
import HandS.More
import HandS.TupAny
import HandS.DictTup
import HandS.MapObj
import HandS.Head0
import HandS.Head1
import HandS.Head2
import HandS.HeadEnd
import HandS.HeadHook1
import HandS.HeadHook2
import HandS.HeadHook3
import HandS.HeadHook4
import HandS.HeadWalk
import KE.SortKeyHeap
import KE.SortLaws
import KE.KDictKeyed
import KE.KDictLaw
import KE.GoesEnum
import HandS.Steps
import HandS.Iter
import HandS.SortKw
import PySem.Challenge.RW_jumpfield_k57_whole_far_gliding
/-! JfBase -/
set_option autoImplicit true
set_option Elab.async false
set_option linter.all false
set_option maxRecDepth 100000
set_option maxHeartbeats 4000000
/-! ### the text by places (printed by wip/gen_head.py) -/
namespace Jf
open PySem L2
def top (i : Nat) : Stmt := PySem.Challenge.pw_jumpfield_k57_whole_far_gliding.main.body.getD i (.Pass ⟨0, 0, 0, 0⟩)
abbrev s_is_whole : Stmt := top 13
abbrev s_round_both : Stmt := top 17
abbrev s_round_four : Stmt := top 18
abbrev s_is_state : Stmt := top 19
abbrev s_in_ground : Stmt := top 23
abbrev s_meeting : Stmt := top 24
abbrev s_middle_of : Stmt := top 25
abbrev s_widened : Stmt := top 26
abbrev s_trimmed : Stmt := top 27
abbrev s_put_in : Stmt := top 28
abbrev s_planted : Stmt := top 29
abbrev s_field_of : Stmt := top 30
abbrev s_by_rows : Stmt := top 33
abbrev s_cells_of : Stmt := top 34
abbrev s_box_of : Stmt := top 35
abbrev s_refuse_steps : Stmt := top 37
abbrev s_level_for : Stmt := top 38
abbrev s_road : Stmt := top 39
abbrev s_jump : Stmt := top 40
abbrev s_clipped : Stmt := top 42
abbrev s_painted : Stmt := top 43
abbrev s_from_corner : Stmt := top 44
abbrev s_lies_within : Stmt := top 45
abbrev s_refuse_box : Stmt := top 46
abbrev s_filled : Stmt := top 47
abbrev s_deciding : Stmt := top 57
abbrev s_becomes : Stmt := top 58
abbrev s_read_state : Stmt := top 59
abbrev s_read_wish : Stmt := top 60
abbrev s_read_condition : Stmt := top 62
abbrev s_read_clause : Stmt := top 63
abbrev s_read_rule : Stmt := top 64
abbrev s_sixteen : Stmt := top 66
abbrev s_nine_of : Stmt := top 67
abbrev s_fours_of : Stmt := top 68
abbrev s_around_of : Stmt := top 69
abbrev s_law_at : Stmt := top 72
abbrev s_law_map_by : Stmt := top 73
abbrev s_law_glide_text : Stmt := top 74
abbrev s_law_offset : Stmt := top 75
abbrev s_law_mapped : Stmt := top 76
abbrev s_law_glided : Stmt := top 77
abbrev s_law_by_rows : Stmt := top 78
abbrev s_law_listed : Stmt := top 79
abbrev s_law_base : Stmt := top 80
abbrev s_law_heap : Stmt := top 81
abbrev s_law_right : Stmt := top 82
abbrev s_law_box_right : Stmt := top 83
abbrev s_law : Stmt := top 84
abbrev s_Grove_init : Stmt := inClass (top 20) 0
abbrev s_Grove_kept : Stmt := inClass (top 20) 1
abbrev s_Grove_cell : Stmt := inClass (top 20) 2
abbrev s_Grove_knit : Stmt := inClass (top 20) 3
abbrev s_Grove_even : Stmt := inClass (top 20) 4
abbrev s_Grove_asked : Stmt := inClass (top 20) 5
abbrev s_Grove_leaf : Stmt := inClass (top 20) 6
abbrev s_Grove_joined : Stmt := inClass (top 20) 7
abbrev s_Grove_solid : Stmt := inClass (top 20) 8
abbrev s_Grove_level_of : Stmt := inClass (top 20) 9
abbrev s_Grove_quarters : Stmt := inClass (top 20) 10
abbrev s_Grove_state_of : Stmt := inClass (top 20) 11
abbrev s_Grove_living : Stmt := inClass (top 20) 12
abbrev s_Grove_span : Stmt := inClass (top 20) 13
abbrev s_Places_init : Stmt := inClass (top 51) 0
abbrev s_Places_holds : Stmt := inClass (top 51) 1
abbrev s_Clause_init : Stmt := inClass (top 52) 0
abbrev s_Clause_fits : Stmt := inClass (top 52) 1
abbrev s_Rule_init : Stmt := inClass (top 56) 0
abbrev s_Jumps_init : Stmt := inClass (top 70) 0
abbrev s_Jumps_by_rule : Stmt := inClass (top 70) 2
abbrev s_Jumps_reckoned : Stmt := inClass (top 70) 3
abbrev s_Jumps_check : Stmt := inClass (top 70) 6
abbrev s_Jumps_after : Stmt := inClass (top 70) 7
def dF (x : Str) (st : Stmt) : He.DefD := ⟨(x, none), x, x, defArgs st, defBody st, defScope st, [], []⟩
def dM (C m q : Str) (st : Stmt) : He.DefD := ⟨(C, some m), m, q, defArgs st, defBody st, defScope st, [], []⟩
def fnL : List He.DefD := [
  dF "is_whole" s_is_whole,
  dF "round_both" s_round_both,
  dF "round_four" s_round_four,
  dF "is_state" s_is_state,
  dF "in_ground" s_in_ground,
  dF "meeting" s_meeting,
  dF "middle_of" s_middle_of,
  dF "widened" s_widened,
  dF "trimmed" s_trimmed,
  dF "put_in" s_put_in,
  dF "planted" s_planted,
  dF "field_of" s_field_of,
  dF "by_rows" s_by_rows,
  dF "cells_of" s_cells_of,
  dF "box_of" s_box_of,
  dF "refuse_steps" s_refuse_steps,
  dF "level_for" s_level_for,
  dF "road" s_road,
  dF "jump" s_jump,
  dF "clipped" s_clipped,
  dF "painted" s_painted,
  dF "from_corner" s_from_corner,
  dF "lies_within" s_lies_within,
  dF "refuse_box" s_refuse_box,
  dF "filled" s_filled,
  dF "deciding" s_deciding,
  dF "becomes" s_becomes,
  dF "read_state" s_read_state,
  dF "read_wish" s_read_wish,
  dF "read_condition" s_read_condition,
  dF "read_clause" s_read_clause,
  dF "read_rule" s_read_rule,
  dF "sixteen" s_sixteen,
  dF "nine_of" s_nine_of,
  dF "fours_of" s_fours_of,
  dF "around_of" s_around_of,
  dF "_law_at" s_law_at,
  dF "_law_map_by" s_law_map_by,
  dF "_law_glide_text" s_law_glide_text,
  dF "_law_offset" s_law_offset,
  dF "_law_mapped" s_law_mapped,
  dF "_law_glided" s_law_glided,
  dF "_law_by_rows" s_law_by_rows,
  dF "_law_listed" s_law_listed,
  dF "_law_base" s_law_base,
  dF "_law_heap" s_law_heap,
  dF "_law_right" s_law_right,
  dF "_law_box_right" s_law_box_right,
  dF "law" s_law,
  dM "Grove" "__init__" "Grove.__init__" s_Grove_init,
  dM "Grove" "kept" "Grove.kept" s_Grove_kept,
  dM "Grove" "cell" "Grove.cell" s_Grove_cell,
  dM "Grove" "knit" "Grove.knit" s_Grove_knit,
  dM "Grove" "even" "Grove.even" s_Grove_even,
  dM "Grove" "asked" "Grove.asked" s_Grove_asked,
  dM "Grove" "leaf" "Grove.leaf" s_Grove_leaf,
  dM "Grove" "joined" "Grove.joined" s_Grove_joined,
  dM "Grove" "solid" "Grove.solid" s_Grove_solid,
  dM "Grove" "level_of" "Grove.level_of" s_Grove_level_of,
  dM "Grove" "quarters" "Grove.quarters" s_Grove_quarters,
  dM "Grove" "state_of" "Grove.state_of" s_Grove_state_of,
  dM "Grove" "living" "Grove.living" s_Grove_living,
  dM "Grove" "span" "Grove.span" s_Grove_span,
  dM "Places" "__init__" "Places.__init__" s_Places_init,
  dM "Places" "holds" "Places.holds" s_Places_holds,
  dM "Clause" "__init__" "Clause.__init__" s_Clause_init,
  dM "Clause" "fits" "Clause.fits" s_Clause_fits,
  dM "Rule" "__init__" "Rule.__init__" s_Rule_init,
  dM "Jumps" "__init__" "Jumps.__init__" s_Jumps_init,
  dM "Jumps" "by_rule" "Jumps.by_rule" s_Jumps_by_rule,
  dM "Jumps" "reckoned" "Jumps.reckoned" s_Jumps_reckoned,
  dM "Jumps" "check" "Jumps.check" s_Jumps_check,
  dM "Jumps" "after" "Jumps.after" s_Jumps_after]
def faL : List He.Fa := [
  .glo "is_whole", .glo "round_both", .glo "round_four", .glo "is_state", .glo "in_ground", .glo "meeting",
  .glo "middle_of", .glo "widened", .glo "trimmed", .glo "put_in", .glo "planted", .glo "field_of",
  .glo "by_rows", .glo "cells_of", .glo "box_of", .glo "refuse_steps", .glo "level_for", .glo "road",
  .glo "jump", .glo "clipped", .glo "painted", .glo "from_corner", .glo "lies_within", .glo "refuse_box",
  .glo "filled", .glo "deciding", .glo "becomes", .glo "read_state", .glo "read_wish", .glo "read_condition",
  .glo "read_clause", .glo "read_rule", .glo "sixteen", .glo "nine_of", .glo "fours_of", .glo "around_of",
  .glo "_law_at", .glo "_law_map_by", .glo "_law_glide_text", .glo "_law_offset", .glo "_law_mapped", .glo "_law_glided",
  .glo "_law_by_rows", .glo "_law_listed", .glo "_law_base", .glo "_law_heap", .glo "_law_right", .glo "_law_box_right",
  .glo "law", .glo "Grove", .glo "Places", .glo "Clause", .glo "Rule", .glo "Jumps",
  .free "len", .free "isinstance", .free "int", .free "bool", .free "str", .free "list",
  .free "tuple", .free "enumerate", .free "zip", .free "range", .free "min", .free "max",
  .free "sorted", .int "HIGHEST" 48, .int "MANY" 1000000000, .int "LIMIT" 1099511627776, .int "MOST" 4096, .str "STATES" "01234567",
  .cls "Grove", .mkr "Grove", .noat "Grove" "numbers", .noat "Grove" "made", .noat "Grove" "levels", .noat "Grove" "lives",
  .noat "Grove" "spans", .noat "Grove" "plain", .meth "Grove" "kept", .meth "Grove" "cell", .meth "Grove" "knit", .meth "Grove" "even",
  .meth "Grove" "asked", .meth "Grove" "leaf", .meth "Grove" "joined", .meth "Grove" "solid", .meth "Grove" "level_of", .meth "Grove" "quarters",
  .meth "Grove" "state_of", .meth "Grove" "living", .meth "Grove" "span", .cls "Places", .mkr "Places", .noat "Places" "wanted",
  .meth "Places" "holds", .cls "Clause", .mkr "Clause", .noat "Clause" "taken", .noat "Clause" "conditions", .noat "Clause" "made",
  .meth "Clause" "fits", .cls "Rule", .mkr "Rule", .noat "Rule" "clauses", .cls "Jumps", .mkr "Jumps",
  .noat "Jumps" "grove", .noat "Jumps" "rule", .noat "Jumps" "known", .meth "Jumps" "by_rule", .meth "Jumps" "reckoned", .meth "Jumps" "check",
  .meth "Jumps" "after"]
def loose0 : List Str := [("_wall" : Str), ("FieldError" : Str), ("NoRule" : Str), ("Restless" : Str), ("NoSquare" : Str), ("NoLevel" : Str), ("NoState" : Str), ("NoBox" : Str), ("TooFar" : Str), ("TooMany" : Str), ("NoSteps" : Str), ("is_whole" : Str)]
def loose1 : List Str := [("HIGHEST" : Str), ("MANY" : Str), ("round_both" : Str), ("round_four" : Str), ("is_state" : Str), ("Grove" : Str), ("LIMIT" : Str), ("in_ground" : Str), ("meeting" : Str), ("middle_of" : Str), ("widened" : Str), ("trimmed" : Str)]
def loose2 : List Str := [("put_in" : Str), ("planted" : Str), ("field_of" : Str), ("MOST" : Str), ("by_rows" : Str), ("cells_of" : Str), ("box_of" : Str), ("refuse_steps" : Str), ("level_for" : Str), ("road" : Str), ("jump" : Str), ("clipped" : Str)]
def loose3 : List Str := [("painted" : Str), ("from_corner" : Str), ("lies_within" : Str), ("refuse_box" : Str), ("filled" : Str), ("Condition" : Str), ("Amount" : Str), ("Places" : Str), ("Clause" : Str), ("STATES" : Str), ("NUMBERS" : Str), ("Rule" : Str)]
def loose4 : List Str := [("deciding" : Str), ("becomes" : Str), ("read_state" : Str), ("read_wish" : Str), ("read_numbers" : Str), ("read_condition" : Str), ("read_clause" : Str), ("read_rule" : Str), ("sixteen" : Str), ("nine_of" : Str), ("fours_of" : Str), ("around_of" : Str)]
def loose5 : List Str := [("Jumps" : Str), ("_law_at" : Str), ("_law_map_by" : Str), ("_law_glide_text" : Str), ("_law_offset" : Str), ("_law_mapped" : Str), ("_law_glided" : Str), ("_law_by_rows" : Str), ("_law_listed" : Str), ("_law_base" : Str), ("_law_heap" : Str), ("_law_right" : Str)]
def loose6 : List Str := [("_law_box_right" : Str)]
def looseL : List Str := loose0 ++ loose1 ++ loose2 ++ loose3 ++ loose4 ++ loose5 ++ loose6
def lawAt : Nat := 84
section
variable {K : PySem.W.Frag} {mg : Str → Option Value}
/-- what the top has left, by names -/
structure Txt (K : PySem.W.Frag) (mg : Str → Option Value) : Prop where
  says : He.SaysD faL fnL K
  heap : ∃ h : Heap, K.In h ∧ h.Ns mainGlobals mg
theorem Txt.glo (T : Txt K mg) {x : Str} (c : (He.Fa.glo x).ok K = true) : mg x = some (.ref (He.ga K x)) := let ⟨_, X, G⟩ := T.heap; He.glo_ok X G c
theorem Txt.fre (T : Txt K mg) {x : Str} (c : (He.Fa.free x).ok K = true) : mg x = none := let ⟨_, X, G⟩ := T.heap; He.free_ok X G c
theorem Txt.int (T : Txt K mg) {x : Str} {i : Int} (c : (He.Fa.int x i).ok K = true) : ∃ t, mg x = some (.int i t) := let ⟨_, X, G⟩ := T.heap; He.int_ok X G c
theorem Txt.str (T : Txt K mg) {x z : Str} (c : (He.Fa.str x z).ok K = true) : ∃ t, mg x = some (.str z t) := let ⟨_, X, G⟩ := T.heap; He.str_ok X G c
theorem Txt.g_is_whole (T : Txt K mg) : mg "is_whole" = some (.ref (He.ga K "is_whole")) := T.glo (T.says.fact 0 (f := .glo "is_whole") rfl)
theorem Txt.g_round_both (T : Txt K mg) : mg "round_both" = some (.ref (He.ga K "round_both")) := T.glo (T.says.fact 1 (f := .glo "round_both") rfl)
theorem Txt.g_round_four (T : Txt K mg) : mg "round_four" = some (.ref (He.ga K "round_four")) := T.glo (T.says.fact 2 (f := .glo "round_four") rfl)
theorem Txt.g_is_state (T : Txt K mg) : mg "is_state" = some (.ref (He.ga K "is_state")) := T.glo (T.says.fact 3 (f := .glo "is_state") rfl)
theorem Txt.g_in_ground (T : Txt K mg) : mg "in_ground" = some (.ref (He.ga K "in_ground")) := T.glo (T.says.fact 4 (f := .glo "in_ground") rfl)
theorem Txt.g_meeting (T : Txt K mg) : mg "meeting" = some (.ref (He.ga K "meeting")) := T.glo (T.says.fact 5 (f := .glo "meeting") rfl)
theorem Txt.g_middle_of (T : Txt K mg) : mg "middle_of" = some (.ref (He.ga K "middle_of")) := T.glo (T.says.fact 6 (f := .glo "middle_of") rfl)
theorem Txt.g_widened (T : Txt K mg) : mg "widened" = some (.ref (He.ga K "widened")) := T.glo (T.says.fact 7 (f := .glo "widened") rfl)
theorem Txt.g_trimmed (T : Txt K mg) : mg "trimmed" = some (.ref (He.ga K "trimmed")) := T.glo (T.says.fact 8 (f := .glo "trimmed") rfl)
theorem Txt.g_put_in (T : Txt K mg) : mg "put_in" = some (.ref (He.ga K "put_in")) := T.glo (T.says.fact 9 (f := .glo "put_in") rfl)
theorem Txt.g_planted (T : Txt K mg) : mg "planted" = some (.ref (He.ga K "planted")) := T.glo (T.says.fact 10 (f := .glo "planted") rfl)
theorem Txt.g_field_of (T : Txt K mg) : mg "field_of" = some (.ref (He.ga K "field_of")) := T.glo (T.says.fact 11 (f := .glo "field_of") rfl)
theorem Txt.g_by_rows (T : Txt K mg) : mg "by_rows" = some (.ref (He.ga K "by_rows")) := T.glo (T.says.fact 12 (f := .glo "by_rows") rfl)
theorem Txt.g_cells_of (T : Txt K mg) : mg "cells_of" = some (.ref (He.ga K "cells_of")) := T.glo (T.says.fact 13 (f := .glo "cells_of") rfl)
theorem Txt.g_box_of (T : Txt K mg) : mg "box_of" = some (.ref (He.ga K "box_of")) := T.glo (T.says.fact 14 (f := .glo "box_of") rfl)
theorem Txt.g_refuse_steps (T : Txt K mg) : mg "refuse_steps" = some (.ref (He.ga K "refuse_steps")) := T.glo (T.says.fact 15 (f := .glo "refuse_steps") rfl)
theorem Txt.g_level_for (T : Txt K mg) : mg "level_for" = some (.ref (He.ga K "level_for")) := T.glo (T.says.fact 16 (f := .glo "level_for") rfl)
theorem Txt.g_road (T : Txt K mg) : mg "road" = some (.ref (He.ga K "road")) := T.glo (T.says.fact 17 (f := .glo "road") rfl)
theorem Txt.g_jump (T : Txt K mg) : mg "jump" = some (.ref (He.ga K "jump")) := T.glo (T.says.fact 18 (f := .glo "jump") rfl)
theorem Txt.g_clipped (T : Txt K mg) : mg "clipped" = some (.ref (He.ga K "clipped")) := T.glo (T.says.fact 19 (f := .glo "clipped") rfl)
theorem Txt.g_painted (T : Txt K mg) : mg "painted" = some (.ref (He.ga K "painted")) := T.glo (T.says.fact 20 (f := .glo "painted") rfl)
theorem Txt.g_from_corner (T : Txt K mg) : mg "from_corner" = some (.ref (He.ga K "from_corner")) := T.glo (T.says.fact 21 (f := .glo "from_corner") rfl)
theorem Txt.g_lies_within (T : Txt K mg) : mg "lies_within" = some (.ref (He.ga K "lies_within")) := T.glo (T.says.fact 22 (f := .glo "lies_within") rfl)
theorem Txt.g_refuse_box (T : Txt K mg) : mg "refuse_box" = some (.ref (He.ga K "refuse_box")) := T.glo (T.says.fact 23 (f := .glo "refuse_box") rfl)
theorem Txt.g_filled (T : Txt K mg) : mg "filled" = some (.ref (He.ga K "filled")) := T.glo (T.says.fact 24 (f := .glo "filled") rfl)
theorem Txt.g_deciding (T : Txt K mg) : mg "deciding" = some (.ref (He.ga K "deciding")) := T.glo (T.says.fact 25 (f := .glo "deciding") rfl)
theorem Txt.g_becomes (T : Txt K mg) : mg "becomes" = some (.ref (He.ga K "becomes")) := T.glo (T.says.fact 26 (f := .glo "becomes") rfl)
theorem Txt.g_read_state (T : Txt K mg) : mg "read_state" = some (.ref (He.ga K "read_state")) := T.glo (T.says.fact 27 (f := .glo "read_state") rfl)
theorem Txt.g_read_wish (T : Txt K mg) : mg "read_wish" = some (.ref (He.ga K "read_wish")) := T.glo (T.says.fact 28 (f := .glo "read_wish") rfl)
theorem Txt.g_read_condition (T : Txt K mg) : mg "read_condition" = some (.ref (He.ga K "read_condition")) := T.glo (T.says.fact 29 (f := .glo "read_condition") rfl)
theorem Txt.g_read_clause (T : Txt K mg) : mg "read_clause" = some (.ref (He.ga K "read_clause")) := T.glo (T.says.fact 30 (f := .glo "read_clause") rfl)
theorem Txt.g_read_rule (T : Txt K mg) : mg "read_rule" = some (.ref (He.ga K "read_rule")) := T.glo (T.says.fact 31 (f := .glo "read_rule") rfl)
theorem Txt.g_sixteen (T : Txt K mg) : mg "sixteen" = some (.ref (He.ga K "sixteen")) := T.glo (T.says.fact 32 (f := .glo "sixteen") rfl)
theorem Txt.g_nine_of (T : Txt K mg) : mg "nine_of" = some (.ref (He.ga K "nine_of")) := T.glo (T.says.fact 33 (f := .glo "nine_of") rfl)
theorem Txt.g_fours_of (T : Txt K mg) : mg "fours_of" = some (.ref (He.ga K "fours_of")) := T.glo (T.says.fact 34 (f := .glo "fours_of") rfl)
theorem Txt.g_around_of (T : Txt K mg) : mg "around_of" = some (.ref (He.ga K "around_of")) := T.glo (T.says.fact 35 (f := .glo "around_of") rfl)
theorem Txt.g_law_at (T : Txt K mg) : mg "_law_at" = some (.ref (He.ga K "_law_at")) := T.glo (T.says.fact 36 (f := .glo "_law_at") rfl)
theorem Txt.g_law_map_by (T : Txt K mg) : mg "_law_map_by" = some (.ref (He.ga K "_law_map_by")) := T.glo (T.says.fact 37 (f := .glo "_law_map_by") rfl)
theorem Txt.g_law_glide_text (T : Txt K mg) : mg "_law_glide_text" = some (.ref (He.ga K "_law_glide_text")) := T.glo (T.says.fact 38 (f := .glo "_law_glide_text") rfl)
theorem Txt.g_law_offset (T : Txt K mg) : mg "_law_offset" = some (.ref (He.ga K "_law_offset")) := T.glo (T.says.fact 39 (f := .glo "_law_offset") rfl)
theorem Txt.g_law_mapped (T : Txt K mg) : mg "_law_mapped" = some (.ref (He.ga K "_law_mapped")) := T.glo (T.says.fact 40 (f := .glo "_law_mapped") rfl)
theorem Txt.g_law_glided (T : Txt K mg) : mg "_law_glided" = some (.ref (He.ga K "_law_glided")) := T.glo (T.says.fact 41 (f := .glo "_law_glided") rfl)
theorem Txt.g_law_by_rows (T : Txt K mg) : mg "_law_by_rows" = some (.ref (He.ga K "_law_by_rows")) := T.glo (T.says.fact 42 (f := .glo "_law_by_rows") rfl)
theorem Txt.g_law_listed (T : Txt K mg) : mg "_law_listed" = some (.ref (He.ga K "_law_listed")) := T.glo (T.says.fact 43 (f := .glo "_law_listed") rfl)
theorem Txt.g_law_base (T : Txt K mg) : mg "_law_base" = some (.ref (He.ga K "_law_base")) := T.glo (T.says.fact 44 (f := .glo "_law_base") rfl)
theorem Txt.g_law_heap (T : Txt K mg) : mg "_law_heap" = some (.ref (He.ga K "_law_heap")) := T.glo (T.says.fact 45 (f := .glo "_law_heap") rfl)
theorem Txt.g_law_right (T : Txt K mg) : mg "_law_right" = some (.ref (He.ga K "_law_right")) := T.glo (T.says.fact 46 (f := .glo "_law_right") rfl)
theorem Txt.g_law_box_right (T : Txt K mg) : mg "_law_box_right" = some (.ref (He.ga K "_law_box_right")) := T.glo (T.says.fact 47 (f := .glo "_law_box_right") rfl)
theorem Txt.g_law (T : Txt K mg) : mg "law" = some (.ref (He.ga K "law")) := T.glo (T.says.fact 48 (f := .glo "law") rfl)
theorem Txt.g_Grove (T : Txt K mg) : mg "Grove" = some (.ref (He.ga K "Grove")) := T.glo (T.says.fact 49 (f := .glo "Grove") rfl)
theorem Txt.g_Places (T : Txt K mg) : mg "Places" = some (.ref (He.ga K "Places")) := T.glo (T.says.fact 50 (f := .glo "Places") rfl)
theorem Txt.g_Clause (T : Txt K mg) : mg "Clause" = some (.ref (He.ga K "Clause")) := T.glo (T.says.fact 51 (f := .glo "Clause") rfl)
theorem Txt.g_Rule (T : Txt K mg) : mg "Rule" = some (.ref (He.ga K "Rule")) := T.glo (T.says.fact 52 (f := .glo "Rule") rfl)
theorem Txt.g_Jumps (T : Txt K mg) : mg "Jumps" = some (.ref (He.ga K "Jumps")) := T.glo (T.says.fact 53 (f := .glo "Jumps") rfl)
theorem Txt.f_len (T : Txt K mg) : mg "len" = none := T.fre (T.says.fact 54 (f := .free "len") rfl)
theorem Txt.f_isinstance (T : Txt K mg) : mg "isinstance" = none := T.fre (T.says.fact 55 (f := .free "isinstance") rfl)
theorem Txt.f_int (T : Txt K mg) : mg "int" = none := T.fre (T.says.fact 56 (f := .free "int") rfl)
theorem Txt.f_bool (T : Txt K mg) : mg "bool" = none := T.fre (T.says.fact 57 (f := .free "bool") rfl)
theorem Txt.f_str (T : Txt K mg) : mg "str" = none := T.fre (T.says.fact 58 (f := .free "str") rfl)
theorem Txt.f_list (T : Txt K mg) : mg "list" = none := T.fre (T.says.fact 59 (f := .free "list") rfl)
theorem Txt.f_tuple (T : Txt K mg) : mg "tuple" = none := T.fre (T.says.fact 60 (f := .free "tuple") rfl)
theorem Txt.f_enumerate (T : Txt K mg) : mg "enumerate" = none := T.fre (T.says.fact 61 (f := .free "enumerate") rfl)
theorem Txt.f_zip (T : Txt K mg) : mg "zip" = none := T.fre (T.says.fact 62 (f := .free "zip") rfl)
theorem Txt.f_range (T : Txt K mg) : mg "range" = none := T.fre (T.says.fact 63 (f := .free "range") rfl)
theorem Txt.f_min (T : Txt K mg) : mg "min" = none := T.fre (T.says.fact 64 (f := .free "min") rfl)
theorem Txt.f_max (T : Txt K mg) : mg "max" = none := T.fre (T.says.fact 65 (f := .free "max") rfl)
theorem Txt.f_sorted (T : Txt K mg) : mg "sorted" = none := T.fre (T.says.fact 66 (f := .free "sorted") rfl)
theorem Txt.i_HIGHEST (T : Txt K mg) : ∃ t, mg "HIGHEST" = some (.int 48 t) := T.int (T.says.fact 67 (f := .int "HIGHEST" 48) rfl)
theorem Txt.i_MANY (T : Txt K mg) : ∃ t, mg "MANY" = some (.int 1000000000 t) := T.int (T.says.fact 68 (f := .int "MANY" 1000000000) rfl)
theorem Txt.i_LIMIT (T : Txt K mg) : ∃ t, mg "LIMIT" = some (.int 1099511627776 t) := T.int (T.says.fact 69 (f := .int "LIMIT" 1099511627776) rfl)
theorem Txt.i_MOST (T : Txt K mg) : ∃ t, mg "MOST" = some (.int 4096 t) := T.int (T.says.fact 70 (f := .int "MOST" 4096) rfl)
theorem Txt.i_STATES (T : Txt K mg) : ∃ t, mg "STATES" = some (.str "01234567" t) := T.str (T.says.fact 71 (f := .str "STATES" "01234567") rfl)
theorem Txt.c_Grove (T : Txt K mg) : Cls K (He.ga K "Grove") := He.cls_ok (T.says.fact 72 (f := .cls "Grove") rfl)
theorem Txt.k_Grove (T : Txt K mg) : Mk K (He.ga K "Grove") (He.fAd K ("Grove", some "__init__")) := He.mkr_ok (T.says.fact 73 (f := .mkr "Grove") rfl)
theorem Txt.n_Grove_numbers (T : Txt K mg) : NoAttr K (He.ga K "Grove") "numbers" := He.noat_ok (T.says.fact 74 (f := .noat "Grove" "numbers") rfl)
theorem Txt.n_Grove_made (T : Txt K mg) : NoAttr K (He.ga K "Grove") "made" := He.noat_ok (T.says.fact 75 (f := .noat "Grove" "made") rfl)
theorem Txt.n_Grove_levels (T : Txt K mg) : NoAttr K (He.ga K "Grove") "levels" := He.noat_ok (T.says.fact 76 (f := .noat "Grove" "levels") rfl)
theorem Txt.n_Grove_lives (T : Txt K mg) : NoAttr K (He.ga K "Grove") "lives" := He.noat_ok (T.says.fact 77 (f := .noat "Grove" "lives") rfl)
theorem Txt.n_Grove_spans (T : Txt K mg) : NoAttr K (He.ga K "Grove") "spans" := He.noat_ok (T.says.fact 78 (f := .noat "Grove" "spans") rfl)
theorem Txt.n_Grove_plain (T : Txt K mg) : NoAttr K (He.ga K "Grove") "plain" := He.noat_ok (T.says.fact 79 (f := .noat "Grove" "plain") rfl)
theorem Txt.m_Grove_kept (T : Txt K mg) : Meth K (He.ga K "Grove") "kept" (He.fAd K ("Grove", some "kept")) := He.meth_ok (T.says.fact 80 (f := .meth "Grove" "kept") rfl)
theorem Txt.m_Grove_cell (T : Txt K mg) : Meth K (He.ga K "Grove") "cell" (He.fAd K ("Grove", some "cell")) := He.meth_ok (T.says.fact 81 (f := .meth "Grove" "cell") rfl)
theorem Txt.m_Grove_knit (T : Txt K mg) : Meth K (He.ga K "Grove") "knit" (He.fAd K ("Grove", some "knit")) := He.meth_ok (T.says.fact 82 (f := .meth "Grove" "knit") rfl)
theorem Txt.m_Grove_even (T : Txt K mg) : Meth K (He.ga K "Grove") "even" (He.fAd K ("Grove", some "even")) := He.meth_ok (T.says.fact 83 (f := .meth "Grove" "even") rfl)
theorem Txt.m_Grove_asked (T : Txt K mg) : Meth K (He.ga K "Grove") "asked" (He.fAd K ("Grove", some "asked")) := He.meth_ok (T.says.fact 84 (f := .meth "Grove" "asked") rfl)
theorem Txt.m_Grove_leaf (T : Txt K mg) : Meth K (He.ga K "Grove") "leaf" (He.fAd K ("Grove", some "leaf")) := He.meth_ok (T.says.fact 85 (f := .meth "Grove" "leaf") rfl)
theorem Txt.m_Grove_joined (T : Txt K mg) : Meth K (He.ga K "Grove") "joined" (He.fAd K ("Grove", some "joined")) := He.meth_ok (T.says.fact 86 (f := .meth "Grove" "joined") rfl)
theorem Txt.m_Grove_solid (T : Txt K mg) : Meth K (He.ga K "Grove") "solid" (He.fAd K ("Grove", some "solid")) := He.meth_ok (T.says.fact 87 (f := .meth "Grove" "solid") rfl)
theorem Txt.m_Grove_level_of (T : Txt K mg) : Meth K (He.ga K "Grove") "level_of" (He.fAd K ("Grove", some "level_of")) := He.meth_ok (T.says.fact 88 (f := .meth "Grove" "level_of") rfl)
theorem Txt.m_Grove_quarters (T : Txt K mg) : Meth K (He.ga K "Grove") "quarters" (He.fAd K ("Grove", some "quarters")) := He.meth_ok (T.says.fact 89 (f := .meth "Grove" "quarters") rfl)
theorem Txt.m_Grove_state_of (T : Txt K mg) : Meth K (He.ga K "Grove") "state_of" (He.fAd K ("Grove", some "state_of")) := He.meth_ok (T.says.fact 90 (f := .meth "Grove" "state_of") rfl)
theorem Txt.m_Grove_living (T : Txt K mg) : Meth K (He.ga K "Grove") "living" (He.fAd K ("Grove", some "living")) := He.meth_ok (T.says.fact 91 (f := .meth "Grove" "living") rfl)
theorem Txt.m_Grove_span (T : Txt K mg) : Meth K (He.ga K "Grove") "span" (He.fAd K ("Grove", some "span")) := He.meth_ok (T.says.fact 92 (f := .meth "Grove" "span") rfl)
theorem Txt.c_Places (T : Txt K mg) : Cls K (He.ga K "Places") := He.cls_ok (T.says.fact 93 (f := .cls "Places") rfl)
theorem Txt.k_Places (T : Txt K mg) : Mk K (He.ga K "Places") (He.fAd K ("Places", some "__init__")) := He.mkr_ok (T.says.fact 94 (f := .mkr "Places") rfl)
theorem Txt.n_Places_wanted (T : Txt K mg) : NoAttr K (He.ga K "Places") "wanted" := He.noat_ok (T.says.fact 95 (f := .noat "Places" "wanted") rfl)
theorem Txt.m_Places_holds (T : Txt K mg) : Meth K (He.ga K "Places") "holds" (He.fAd K ("Places", some "holds")) := He.meth_ok (T.says.fact 96 (f := .meth "Places" "holds") rfl)
theorem Txt.c_Clause (T : Txt K mg) : Cls K (He.ga K "Clause") := He.cls_ok (T.says.fact 97 (f := .cls "Clause") rfl)
theorem Txt.k_Clause (T : Txt K mg) : Mk K (He.ga K "Clause") (He.fAd K ("Clause", some "__init__")) := He.mkr_ok (T.says.fact 98 (f := .mkr "Clause") rfl)
theorem Txt.n_Clause_taken (T : Txt K mg) : NoAttr K (He.ga K "Clause") "taken" := He.noat_ok (T.says.fact 99 (f := .noat "Clause" "taken") rfl)
theorem Txt.n_Clause_conditions (T : Txt K mg) : NoAttr K (He.ga K "Clause") "conditions" := He.noat_ok (T.says.fact 100 (f := .noat "Clause" "conditions") rfl)
theorem Txt.n_Clause_made (T : Txt K mg) : NoAttr K (He.ga K "Clause") "made" := He.noat_ok (T.says.fact 101 (f := .noat "Clause" "made") rfl)
theorem Txt.m_Clause_fits (T : Txt K mg) : Meth K (He.ga K "Clause") "fits" (He.fAd K ("Clause", some "fits")) := He.meth_ok (T.says.fact 102 (f := .meth "Clause" "fits") rfl)
theorem Txt.c_Rule (T : Txt K mg) : Cls K (He.ga K "Rule") := He.cls_ok (T.says.fact 103 (f := .cls "Rule") rfl)
theorem Txt.k_Rule (T : Txt K mg) : Mk K (He.ga K "Rule") (He.fAd K ("Rule", some "__init__")) := He.mkr_ok (T.says.fact 104 (f := .mkr "Rule") rfl)
theorem Txt.n_Rule_clauses (T : Txt K mg) : NoAttr K (He.ga K "Rule") "clauses" := He.noat_ok (T.says.fact 105 (f := .noat "Rule" "clauses") rfl)
theorem Txt.c_Jumps (T : Txt K mg) : Cls K (He.ga K "Jumps") := He.cls_ok (T.says.fact 106 (f := .cls "Jumps") rfl)
theorem Txt.k_Jumps (T : Txt K mg) : Mk K (He.ga K "Jumps") (He.fAd K ("Jumps", some "__init__")) := He.mkr_ok (T.says.fact 107 (f := .mkr "Jumps") rfl)
theorem Txt.n_Jumps_grove (T : Txt K mg) : NoAttr K (He.ga K "Jumps") "grove" := He.noat_ok (T.says.fact 108 (f := .noat "Jumps" "grove") rfl)
theorem Txt.n_Jumps_rule (T : Txt K mg) : NoAttr K (He.ga K "Jumps") "rule" := He.noat_ok (T.says.fact 109 (f := .noat "Jumps" "rule") rfl)
theorem Txt.n_Jumps_known (T : Txt K mg) : NoAttr K (He.ga K "Jumps") "known" := He.noat_ok (T.says.fact 110 (f := .noat "Jumps" "known") rfl)
theorem Txt.m_Jumps_by_rule (T : Txt K mg) : Meth K (He.ga K "Jumps") "by_rule" (He.fAd K ("Jumps", some "by_rule")) := He.meth_ok (T.says.fact 111 (f := .meth "Jumps" "by_rule") rfl)
theorem Txt.m_Jumps_reckoned (T : Txt K mg) : Meth K (He.ga K "Jumps") "reckoned" (He.fAd K ("Jumps", some "reckoned")) := He.meth_ok (T.says.fact 112 (f := .meth "Jumps" "reckoned") rfl)
theorem Txt.m_Jumps_check (T : Txt K mg) : Meth K (He.ga K "Jumps") "check" (He.fAd K ("Jumps", some "check")) := He.meth_ok (T.says.fact 113 (f := .meth "Jumps" "check") rfl)
theorem Txt.m_Jumps_after (T : Txt K mg) : Meth K (He.ga K "Jumps") "after" (He.fAd K ("Jumps", some "after")) := He.meth_ok (T.says.fact 114 (f := .meth "Jumps" "after") rfl)
theorem Txt.d_is_whole (T : Txt K mg) : ∃ fd, FunD K "is_whole" "is_whole" (defArgs s_is_whole) (defBody s_is_whole) (defScope s_is_whole) [] [] (He.fAd K ("is_whole", none)) fd ∧ Binds K fd ["thing"] [] := by
  obtain ⟨fd, F⟩ := T.says.def_ 0 (d := dF "is_whole" s_is_whole) rfl
  exact ⟨fd, F, FunD.bindsN (ps := ["thing"]) F fun _ _ _ _ _ _ us hl => match us, hl with | [_], _ => rfl⟩
theorem Txt.d_round_both (T : Txt K mg) : ∃ fd, FunD K "round_both" "round_both" (defArgs s_round_both) (defBody s_round_both) (defScope s_round_both) [] [] (He.fAd K ("round_both", none)) fd ∧ Binds K fd ["one", "other"] [] := by
  obtain ⟨fd, F⟩ := T.says.def_ 1 (d := dF "round_both" s_round_both) rfl
  exact ⟨fd, F, FunD.bindsN (ps := ["one", "other"]) F fun _ _ _ _ _ _ us hl => match us, hl with | [_, _], _ => rfl⟩
theorem Txt.d_round_four (T : Txt K mg) : ∃ fd, FunD K "round_four" "round_four" (defArgs s_round_four) (defBody s_round_four) (defScope s_round_four) [] [] (He.fAd K ("round_four", none)) fd ∧ Binds K fd ["spans", "half"] [] := by
  obtain ⟨fd, F⟩ := T.says.def_ 2 (d := dF "round_four" s_round_four) rfl
  exact ⟨fd, F, FunD.bindsN (ps := ["spans", "half"]) F fun _ _ _ _ _ _ us hl => match us, hl with | [_, _], _ => rfl⟩
theorem Txt.d_is_state (T : Txt K mg) : ∃ fd, FunD K "is_state" "is_state" (defArgs s_is_state) (defBody s_is_state) (defScope s_is_state) [] [] (He.fAd K ("is_state", none)) fd ∧ Binds K fd ["thing"] [] := by
  obtain ⟨fd, F⟩ := T.says.def_ 3 (d := dF "is_state" s_is_state) rfl
  exact ⟨fd, F, FunD.bindsN (ps := ["thing"]) F fun _ _ _ _ _ _ us hl => match us, hl with | [_], _ => rfl⟩
theorem Txt.d_in_ground (T : Txt K mg) : ∃ fd, FunD K "in_ground" "in_ground" (defArgs s_in_ground) (defBody s_in_ground) (defScope s_in_ground) [] [] (He.fAd K ("in_ground", none)) fd ∧ Binds K fd ["x", "y"] [] := by
  obtain ⟨fd, F⟩ := T.says.def_ 4 (d := dF "in_ground" s_in_ground) rfl
  exact ⟨fd, F, FunD.bindsN (ps := ["x", "y"]) F fun _ _ _ _ _ _ us hl => match us, hl with | [_, _], _ => rfl⟩
theorem Txt.d_meeting (T : Txt K mg) : ∃ fd, FunD K "meeting" "meeting" (defArgs s_meeting) (defBody s_meeting) (defScope s_meeting) [] [] (He.fAd K ("meeting", none)) fd ∧ Binds K fd ["grove", "a", "b", "c", "d"] [] := by
  obtain ⟨fd, F⟩ := T.says.def_ 5 (d := dF "meeting" s_meeting) rfl
  exact ⟨fd, F, FunD.bindsN (ps := ["grove", "a", "b", "c", "d"]) F fun _ _ _ _ _ _ us hl => match us, hl with | [_, _, _, _, _], _ => rfl⟩
theorem Txt.d_middle_of (T : Txt K mg) : ∃ fd, FunD K "middle_of" "middle_of" (defArgs s_middle_of) (defBody s_middle_of) (defScope s_middle_of) [] [] (He.fAd K ("middle_of", none)) fd ∧ Binds K fd ["grove", "square"] [] := by
  obtain ⟨fd, F⟩ := T.says.def_ 6 (d := dF "middle_of" s_middle_of) rfl
  exact ⟨fd, F, FunD.bindsN (ps := ["grove", "square"]) F fun _ _ _ _ _ _ us hl => match us, hl with | [_, _], _ => rfl⟩
theorem Txt.d_widened (T : Txt K mg) : ∃ fd, FunD K "widened" "widened" (defArgs s_widened) (defBody s_widened) (defScope s_widened) [] [] (He.fAd K ("widened", none)) fd ∧ Binds K fd ["grove", "square"] [] := by
  obtain ⟨fd, F⟩ := T.says.def_ 7 (d := dF "widened" s_widened) rfl
  exact ⟨fd, F, FunD.bindsN (ps := ["grove", "square"]) F fun _ _ _ _ _ _ us hl => match us, hl with | [_, _], _ => rfl⟩
theorem Txt.d_trimmed (T : Txt K mg) : ∃ fd, FunD K "trimmed" "trimmed" (defArgs s_trimmed) (defBody s_trimmed) (defScope s_trimmed) [] [] (He.fAd K ("trimmed", none)) fd ∧ Binds K fd ["grove", "square"] [] := by
  obtain ⟨fd, F⟩ := T.says.def_ 8 (d := dF "trimmed" s_trimmed) rfl
  exact ⟨fd, F, FunD.bindsN (ps := ["grove", "square"]) F fun _ _ _ _ _ _ us hl => match us, hl with | [_, _], _ => rfl⟩
theorem Txt.d_put_in (T : Txt K mg) : ∃ fd, FunD K "put_in" "put_in" (defArgs s_put_in) (defBody s_put_in) (defScope s_put_in) [] [] (He.fAd K ("put_in", none)) fd ∧ Binds K fd ["grove", "square", "x", "y", "leaf"] [] := by
  obtain ⟨fd, F⟩ := T.says.def_ 9 (d := dF "put_in" s_put_in) rfl
  exact ⟨fd, F, FunD.bindsN (ps := ["grove", "square", "x", "y", "leaf"]) F fun _ _ _ _ _ _ us hl => match us, hl with | [_, _, _, _, _], _ => rfl⟩
theorem Txt.d_planted (T : Txt K mg) : ∃ fd, FunD K "planted" "planted" (defArgs s_planted) (defBody s_planted) (defScope s_planted) [] [] (He.fAd K ("planted", none)) fd ∧ Binds K fd ["grove", "field", "x", "y", "state"] [] := by
  obtain ⟨fd, F⟩ := T.says.def_ 10 (d := dF "planted" s_planted) rfl
  exact ⟨fd, F, FunD.bindsN (ps := ["grove", "field", "x", "y", "state"]) F fun _ _ _ _ _ _ us hl => match us, hl with | [_, _, _, _, _], _ => rfl⟩
theorem Txt.d_field_of (T : Txt K mg) : ∃ fd, FunD K "field_of" "field_of" (defArgs s_field_of) (defBody s_field_of) (defScope s_field_of) [] [] (He.fAd K ("field_of", none)) fd ∧ Binds K fd ["grove", "cells"] [] := by
  obtain ⟨fd, F⟩ := T.says.def_ 11 (d := dF "field_of" s_field_of) rfl
  exact ⟨fd, F, FunD.bindsN (ps := ["grove", "cells"]) F fun _ _ _ _ _ _ us hl => match us, hl with | [_, _], _ => rfl⟩
theorem Txt.d_by_rows (T : Txt K mg) : ∃ fd, FunD K "by_rows" "by_rows" (defArgs s_by_rows) (defBody s_by_rows) (defScope s_by_rows) [] [] (He.fAd K ("by_rows", none)) fd ∧ Binds K fd ["cell"] [] := by
  obtain ⟨fd, F⟩ := T.says.def_ 12 (d := dF "by_rows" s_by_rows) rfl
  exact ⟨fd, F, FunD.bindsN (ps := ["cell"]) F fun _ _ _ _ _ _ us hl => match us, hl with | [_], _ => rfl⟩
theorem Txt.d_cells_of (T : Txt K mg) : ∃ fd, FunD K "cells_of" "cells_of" (defArgs s_cells_of) (defBody s_cells_of) (defScope s_cells_of) [] [] (He.fAd K ("cells_of", none)) fd ∧ Binds K fd ["grove", "field"] [] := by
  obtain ⟨fd, F⟩ := T.says.def_ 13 (d := dF "cells_of" s_cells_of) rfl
  exact ⟨fd, F, FunD.bindsN (ps := ["grove", "field"]) F fun _ _ _ _ _ _ us hl => match us, hl with | [_, _], _ => rfl⟩
theorem Txt.d_box_of (T : Txt K mg) : ∃ fd, FunD K "box_of" "box_of" (defArgs s_box_of) (defBody s_box_of) (defScope s_box_of) [] [] (He.fAd K ("box_of", none)) fd ∧ Binds K fd ["grove", "field"] [] := by
  obtain ⟨fd, F⟩ := T.says.def_ 14 (d := dF "box_of" s_box_of) rfl
  exact ⟨fd, F, FunD.bindsN (ps := ["grove", "field"]) F fun _ _ _ _ _ _ us hl => match us, hl with | [_, _], _ => rfl⟩
theorem Txt.d_refuse_steps (T : Txt K mg) : ∃ fd, FunD K "refuse_steps" "refuse_steps" (defArgs s_refuse_steps) (defBody s_refuse_steps) (defScope s_refuse_steps) [] [] (He.fAd K ("refuse_steps", none)) fd ∧ Binds K fd ["jumps", "field", "n"] [] := by
  obtain ⟨fd, F⟩ := T.says.def_ 15 (d := dF "refuse_steps" s_refuse_steps) rfl
  exact ⟨fd, F, FunD.bindsN (ps := ["jumps", "field", "n"]) F fun _ _ _ _ _ _ us hl => match us, hl with | [_, _, _], _ => rfl⟩
theorem Txt.d_level_for (T : Txt K mg) : ∃ fd, FunD K "level_for" "level_for" (defArgs s_level_for) (defBody s_level_for) (defScope s_level_for) [] [] (He.fAd K ("level_for", none)) fd ∧ Binds K fd ["level", "e"] [] := by
  obtain ⟨fd, F⟩ := T.says.def_ 16 (d := dF "level_for" s_level_for) rfl
  exact ⟨fd, F, FunD.bindsN (ps := ["level", "e"]) F fun _ _ _ _ _ _ us hl => match us, hl with | [_, _], _ => rfl⟩
theorem Txt.d_road (T : Txt K mg) : ∃ fd, FunD K "road" "road" (defArgs s_road) (defBody s_road) (defScope s_road) [] [] (He.fAd K ("road", none)) fd ∧ Binds K fd ["jumps", "field", "n"] [] := by
  obtain ⟨fd, F⟩ := T.says.def_ 17 (d := dF "road" s_road) rfl
  exact ⟨fd, F, FunD.bindsN (ps := ["jumps", "field", "n"]) F fun _ _ _ _ _ _ us hl => match us, hl with | [_, _, _], _ => rfl⟩
theorem Txt.d_jump (T : Txt K mg) : ∃ fd, FunD K "jump" "jump" (defArgs s_jump) (defBody s_jump) (defScope s_jump) [] [] (He.fAd K ("jump", none)) fd ∧ Binds K fd ["jumps", "field", "n"] [] := by
  obtain ⟨fd, F⟩ := T.says.def_ 18 (d := dF "jump" s_jump) rfl
  exact ⟨fd, F, FunD.bindsN (ps := ["jumps", "field", "n"]) F fun _ _ _ _ _ _ us hl => match us, hl with | [_, _, _], _ => rfl⟩
theorem Txt.d_clipped (T : Txt K mg) : ∃ fd, FunD K "clipped" "clipped" (defArgs s_clipped) (defBody s_clipped) (defScope s_clipped) [] [] (He.fAd K ("clipped", none)) fd ∧ Binds K fd ["box", "size"] [] := by
  obtain ⟨fd, F⟩ := T.says.def_ 19 (d := dF "clipped" s_clipped) rfl
  exact ⟨fd, F, FunD.bindsN (ps := ["box", "size"]) F fun _ _ _ _ _ _ us hl => match us, hl with | [_, _], _ => rfl⟩
theorem Txt.d_painted (T : Txt K mg) : ∃ fd, FunD K "painted" "painted" (defArgs s_painted) (defBody s_painted) (defScope s_painted) [] [] (He.fAd K ("painted", none)) fd ∧ Binds K fd ["grove", "square", "box", "inside", "outside", "known"] [] := by
  obtain ⟨fd, F⟩ := T.says.def_ 20 (d := dF "painted" s_painted) rfl
  exact ⟨fd, F, FunD.bindsN (ps := ["grove", "square", "box", "inside", "outside", "known"]) F fun _ _ _ _ _ _ us hl => match us, hl with | [_, _, _, _, _, _], _ => rfl⟩
theorem Txt.d_from_corner (T : Txt K mg) : ∃ fd, FunD K "from_corner" "from_corner" (defArgs s_from_corner) (defBody s_from_corner) (defScope s_from_corner) [] [] (He.fAd K ("from_corner", none)) fd ∧ Binds K fd ["grove", "field", "box"] [] := by
  obtain ⟨fd, F⟩ := T.says.def_ 21 (d := dF "from_corner" s_from_corner) rfl
  exact ⟨fd, F, FunD.bindsN (ps := ["grove", "field", "box"]) F fun _ _ _ _ _ _ us hl => match us, hl with | [_, _, _], _ => rfl⟩
theorem Txt.d_lies_within (T : Txt K mg) : ∃ fd, FunD K "lies_within" "lies_within" (defArgs s_lies_within) (defBody s_lies_within) (defScope s_lies_within) [] [] (He.fAd K ("lies_within", none)) fd ∧ Binds K fd ["box", "half"] [] := by
  obtain ⟨fd, F⟩ := T.says.def_ 22 (d := dF "lies_within" s_lies_within) rfl
  exact ⟨fd, F, FunD.bindsN (ps := ["box", "half"]) F fun _ _ _ _ _ _ us hl => match us, hl with | [_, _], _ => rfl⟩
theorem Txt.d_refuse_box (T : Txt K mg) : ∃ fd, FunD K "refuse_box" "refuse_box" (defArgs s_refuse_box) (defBody s_refuse_box) (defScope s_refuse_box) [] [] (He.fAd K ("refuse_box", none)) fd ∧ Binds K fd ["box"] [] := by
  obtain ⟨fd, F⟩ := T.says.def_ 23 (d := dF "refuse_box" s_refuse_box) rfl
  exact ⟨fd, F, FunD.bindsN (ps := ["box"]) F fun _ _ _ _ _ _ us hl => match us, hl with | [_], _ => rfl⟩
theorem Txt.d_filled (T : Txt K mg) : ∃ fd, FunD K "filled" "filled" (defArgs s_filled) (defBody s_filled) (defScope s_filled) [] [] (He.fAd K ("filled", none)) fd ∧ Binds K fd ["grove", "field", "box", "state"] [] := by
  obtain ⟨fd, F⟩ := T.says.def_ 24 (d := dF "filled" s_filled) rfl
  exact ⟨fd, F, FunD.bindsN (ps := ["grove", "field", "box", "state"]) F fun _ _ _ _ _ _ us hl => match us, hl with | [_, _, _, _], _ => rfl⟩
theorem Txt.d_deciding (T : Txt K mg) : ∃ fd, FunD K "deciding" "deciding" (defArgs s_deciding) (defBody s_deciding) (defScope s_deciding) [] [] (He.fAd K ("deciding", none)) fd ∧ Binds K fd ["rule", "cell", "around"] [] := by
  obtain ⟨fd, F⟩ := T.says.def_ 25 (d := dF "deciding" s_deciding) rfl
  exact ⟨fd, F, FunD.bindsN (ps := ["rule", "cell", "around"]) F fun _ _ _ _ _ _ us hl => match us, hl with | [_, _, _], _ => rfl⟩
theorem Txt.d_becomes (T : Txt K mg) : ∃ fd, FunD K "becomes" "becomes" (defArgs s_becomes) (defBody s_becomes) (defScope s_becomes) [] [] (He.fAd K ("becomes", none)) fd ∧ Binds K fd ["rule", "cell", "around"] [] := by
  obtain ⟨fd, F⟩ := T.says.def_ 26 (d := dF "becomes" s_becomes) rfl
  exact ⟨fd, F, FunD.bindsN (ps := ["rule", "cell", "around"]) F fun _ _ _ _ _ _ us hl => match us, hl with | [_, _, _], _ => rfl⟩
theorem Txt.d_read_state (T : Txt K mg) : ∃ fd, FunD K "read_state" "read_state" (defArgs s_read_state) (defBody s_read_state) (defScope s_read_state) [] [] (He.fAd K ("read_state", none)) fd ∧ Binds K fd ["word"] [] := by
  obtain ⟨fd, F⟩ := T.says.def_ 27 (d := dF "read_state" s_read_state) rfl
  exact ⟨fd, F, FunD.bindsN (ps := ["word"]) F fun _ _ _ _ _ _ us hl => match us, hl with | [_], _ => rfl⟩
theorem Txt.d_read_wish (T : Txt K mg) : ∃ fd, FunD K "read_wish" "read_wish" (defArgs s_read_wish) (defBody s_read_wish) (defScope s_read_wish) [] [] (He.fAd K ("read_wish", none)) fd ∧ Binds K fd ["word"] [] := by
  obtain ⟨fd, F⟩ := T.says.def_ 28 (d := dF "read_wish" s_read_wish) rfl
  exact ⟨fd, F, FunD.bindsN (ps := ["word"]) F fun _ _ _ _ _ _ us hl => match us, hl with | [_], _ => rfl⟩
theorem Txt.d_read_condition (T : Txt K mg) : ∃ fd, FunD K "read_condition" "read_condition" (defArgs s_read_condition) (defBody s_read_condition) (defScope s_read_condition) [] [] (He.fAd K ("read_condition", none)) fd ∧ Binds K fd ["word"] [] := by
  obtain ⟨fd, F⟩ := T.says.def_ 29 (d := dF "read_condition" s_read_condition) rfl
  exact ⟨fd, F, FunD.bindsN (ps := ["word"]) F fun _ _ _ _ _ _ us hl => match us, hl with | [_], _ => rfl⟩
theorem Txt.d_read_clause (T : Txt K mg) : ∃ fd, FunD K "read_clause" "read_clause" (defArgs s_read_clause) (defBody s_read_clause) (defScope s_read_clause) [] [] (He.fAd K ("read_clause", none)) fd ∧ Binds K fd ["part"] [] := by
  obtain ⟨fd, F⟩ := T.says.def_ 30 (d := dF "read_clause" s_read_clause) rfl
  exact ⟨fd, F, FunD.bindsN (ps := ["part"]) F fun _ _ _ _ _ _ us hl => match us, hl with | [_], _ => rfl⟩
theorem Txt.d_read_rule (T : Txt K mg) : ∃ fd, FunD K "read_rule" "read_rule" (defArgs s_read_rule) (defBody s_read_rule) (defScope s_read_rule) [] [] (He.fAd K ("read_rule", none)) fd ∧ Binds K fd ["text"] [] := by
  obtain ⟨fd, F⟩ := T.says.def_ 31 (d := dF "read_rule" s_read_rule) rfl
  exact ⟨fd, F, FunD.bindsN (ps := ["text"]) F fun _ _ _ _ _ _ us hl => match us, hl with | [_], _ => rfl⟩
theorem Txt.d_sixteen (T : Txt K mg) : ∃ fd, FunD K "sixteen" "sixteen" (defArgs s_sixteen) (defBody s_sixteen) (defScope s_sixteen) [] [] (He.fAd K ("sixteen", none)) fd ∧ Binds K fd ["grove", "square"] [] := by
  obtain ⟨fd, F⟩ := T.says.def_ 32 (d := dF "sixteen" s_sixteen) rfl
  exact ⟨fd, F, FunD.bindsN (ps := ["grove", "square"]) F fun _ _ _ _ _ _ us hl => match us, hl with | [_, _], _ => rfl⟩
theorem Txt.d_nine_of (T : Txt K mg) : ∃ fd, FunD K "nine_of" "nine_of" (defArgs s_nine_of) (defBody s_nine_of) (defScope s_nine_of) [] [] (He.fAd K ("nine_of", none)) fd ∧ Binds K fd ["grove", "square"] [] := by
  obtain ⟨fd, F⟩ := T.says.def_ 33 (d := dF "nine_of" s_nine_of) rfl
  exact ⟨fd, F, FunD.bindsN (ps := ["grove", "square"]) F fun _ _ _ _ _ _ us hl => match us, hl with | [_, _], _ => rfl⟩
theorem Txt.d_fours_of (T : Txt K mg) : ∃ fd, FunD K "fours_of" "fours_of" (defArgs s_fours_of) (defBody s_fours_of) (defScope s_fours_of) [] [] (He.fAd K ("fours_of", none)) fd ∧ Binds K fd ["nine"] [] := by
  obtain ⟨fd, F⟩ := T.says.def_ 34 (d := dF "fours_of" s_fours_of) rfl
  exact ⟨fd, F, FunD.bindsN (ps := ["nine"]) F fun _ _ _ _ _ _ us hl => match us, hl with | [_], _ => rfl⟩
theorem Txt.d_around_of (T : Txt K mg) : ∃ fd, FunD K "around_of" "around_of" (defArgs s_around_of) (defBody s_around_of) (defScope s_around_of) [] [] (He.fAd K ("around_of", none)) fd ∧ Binds K fd ["states", "at"] [] := by
  obtain ⟨fd, F⟩ := T.says.def_ 35 (d := dF "around_of" s_around_of) rfl
  exact ⟨fd, F, FunD.bindsN (ps := ["states", "at"]) F fun _ _ _ _ _ _ us hl => match us, hl with | [_, _], _ => rfl⟩
theorem Txt.d_law_at (T : Txt K mg) : ∃ fd, FunD K "_law_at" "_law_at" (defArgs s_law_at) (defBody s_law_at) (defScope s_law_at) [] [] (He.fAd K ("_law_at", none)) fd ∧ Binds K fd ["_law_script", "_law_k"] [] := by
  obtain ⟨fd, F⟩ := T.says.def_ 36 (d := dF "_law_at" s_law_at) rfl
  exact ⟨fd, F, FunD.bindsN (ps := ["_law_script", "_law_k"]) F fun _ _ _ _ _ _ us hl => match us, hl with | [_, _], _ => rfl⟩
theorem Txt.d_law_map_by (T : Txt K mg) : ∃ fd, FunD K "_law_map_by" "_law_map_by" (defArgs s_law_map_by) (defBody s_law_map_by) (defScope s_law_map_by) [] [] (He.fAd K ("_law_map_by", none)) fd ∧ Binds K fd ["_law_script", "_law_first"] [] := by
  obtain ⟨fd, F⟩ := T.says.def_ 37 (d := dF "_law_map_by" s_law_map_by) rfl
  exact ⟨fd, F, FunD.bindsN (ps := ["_law_script", "_law_first"]) F fun _ _ _ _ _ _ us hl => match us, hl with | [_, _], _ => rfl⟩
theorem Txt.d_law_glide_text (T : Txt K mg) : ∃ fd, FunD K "_law_glide_text" "_law_glide_text" (defArgs s_law_glide_text) (defBody s_law_glide_text) (defScope s_law_glide_text) [] [] (He.fAd K ("_law_glide_text", none)) fd ∧ Binds K fd ["_law_made", "_law_way"] [] := by
  obtain ⟨fd, F⟩ := T.says.def_ 38 (d := dF "_law_glide_text" s_law_glide_text) rfl
  exact ⟨fd, F, FunD.bindsN (ps := ["_law_made", "_law_way"]) F fun _ _ _ _ _ _ us hl => match us, hl with | [_, _], _ => rfl⟩
theorem Txt.d_law_offset (T : Txt K mg) : ∃ fd, FunD K "_law_offset" "_law_offset" (defArgs s_law_offset) (defBody s_law_offset) (defScope s_law_offset) [] [] (He.fAd K ("_law_offset", none)) fd ∧ Binds K fd ["_law_way"] [] := by
  obtain ⟨fd, F⟩ := T.says.def_ 39 (d := dF "_law_offset" s_law_offset) rfl
  exact ⟨fd, F, FunD.bindsN (ps := ["_law_way"]) F fun _ _ _ _ _ _ us hl => match us, hl with | [_], _ => rfl⟩
theorem Txt.d_law_mapped (T : Txt K mg) : ∃ fd, FunD K "_law_mapped" "_law_mapped" (defArgs s_law_mapped) (defBody s_law_mapped) (defScope s_law_mapped) [] [] (He.fAd K ("_law_mapped", none)) fd ∧ Binds K fd ["_law_made", "_law_n"] [] := by
  obtain ⟨fd, F⟩ := T.says.def_ 40 (d := dF "_law_mapped" s_law_mapped) rfl
  exact ⟨fd, F, FunD.bindsN (ps := ["_law_made", "_law_n"]) F fun _ _ _ _ _ _ us hl => match us, hl with | [_, _], _ => rfl⟩
theorem Txt.d_law_glided (T : Txt K mg) : ∃ fd, FunD K "_law_glided" "_law_glided" (defArgs s_law_glided) (defBody s_law_glided) (defScope s_law_glided) [] [] (He.fAd K ("_law_glided", none)) fd ∧ Binds K fd ["_law_made", "_law_way", "_law_states", "_law_n"] [] := by
  obtain ⟨fd, F⟩ := T.says.def_ 41 (d := dF "_law_glided" s_law_glided) rfl
  exact ⟨fd, F, FunD.bindsN (ps := ["_law_made", "_law_way", "_law_states", "_law_n"]) F fun _ _ _ _ _ _ us hl => match us, hl with | [_, _, _, _], _ => rfl⟩
theorem Txt.d_law_by_rows (T : Txt K mg) : ∃ fd, FunD K "_law_by_rows" "_law_by_rows" (defArgs s_law_by_rows) (defBody s_law_by_rows) (defScope s_law_by_rows) [] [] (He.fAd K ("_law_by_rows", none)) fd ∧ Binds K fd ["_law_cell"] [] := by
  obtain ⟨fd, F⟩ := T.says.def_ 42 (d := dF "_law_by_rows" s_law_by_rows) rfl
  exact ⟨fd, F, FunD.bindsN (ps := ["_law_cell"]) F fun _ _ _ _ _ _ us hl => match us, hl with | [_], _ => rfl⟩
theorem Txt.d_law_listed (T : Txt K mg) : ∃ fd, FunD K "_law_listed" "_law_listed" (defArgs s_law_listed) (defBody s_law_listed) (defScope s_law_listed) [] [] (He.fAd K ("_law_listed", none)) fd ∧ Binds K fd ["_law_states"] [] := by
  obtain ⟨fd, F⟩ := T.says.def_ 43 (d := dF "_law_listed" s_law_listed) rfl
  exact ⟨fd, F, FunD.bindsN (ps := ["_law_states"]) F fun _ _ _ _ _ _ us hl => match us, hl with | [_], _ => rfl⟩
theorem Txt.d_law_base (T : Txt K mg) : ∃ fd, FunD K "_law_base" "_law_base" (defArgs s_law_base) (defBody s_law_base) (defScope s_law_base) [] [] (He.fAd K ("_law_base", none)) fd ∧ Binds K fd ["_law_cell"] [] := by
  obtain ⟨fd, F⟩ := T.says.def_ 44 (d := dF "_law_base" s_law_base) rfl
  exact ⟨fd, F, FunD.bindsN (ps := ["_law_cell"]) F fun _ _ _ _ _ _ us hl => match us, hl with | [_], _ => rfl⟩
theorem Txt.d_law_heap (T : Txt K mg) : ∃ fd, FunD K "_law_heap" "_law_heap" (defArgs s_law_heap) (defBody s_law_heap) (defScope s_law_heap) [] [] (He.fAd K ("_law_heap", none)) fd ∧ Binds K fd ["_law_script", "_law_first", "_law_many", "_law_left", "_law_top"] [] := by
  obtain ⟨fd, F⟩ := T.says.def_ 45 (d := dF "_law_heap" s_law_heap) rfl
  exact ⟨fd, F, FunD.bindsN (ps := ["_law_script", "_law_first", "_law_many", "_law_left", "_law_top"]) F fun _ _ _ _ _ _ us hl => match us, hl with | [_, _, _, _, _], _ => rfl⟩
theorem Txt.d_law_right (T : Txt K mg) : ∃ fd, FunD K "_law_right" "_law_right" (defArgs s_law_right) (defBody s_law_right) (defScope s_law_right) [] [] (He.fAd K ("_law_right", none)) fd ∧ Binds K fd ["_law_found", "_law_due"] [] := by
  obtain ⟨fd, F⟩ := T.says.def_ 46 (d := dF "_law_right" s_law_right) rfl
  exact ⟨fd, F, FunD.bindsN (ps := ["_law_found", "_law_due"]) F fun _ _ _ _ _ _ us hl => match us, hl with | [_, _], _ => rfl⟩
theorem Txt.d_law_box_right (T : Txt K mg) : ∃ fd, FunD K "_law_box_right" "_law_box_right" (defArgs s_law_box_right) (defBody s_law_box_right) (defScope s_law_box_right) [] [] (He.fAd K ("_law_box_right", none)) fd ∧ Binds K fd ["_law_script", "_law_made", "_law_way"] [] := by
  obtain ⟨fd, F⟩ := T.says.def_ 47 (d := dF "_law_box_right" s_law_box_right) rfl
  exact ⟨fd, F, FunD.bindsN (ps := ["_law_script", "_law_made", "_law_way"]) F fun _ _ _ _ _ _ us hl => match us, hl with | [_, _, _], _ => rfl⟩
theorem Txt.d_law (T : Txt K mg) : ∃ fd, FunD K "law" "law" (defArgs s_law) (defBody s_law) (defScope s_law) [] [] (He.fAd K ("law", none)) fd ∧ Binds K fd ["_law_script"] [] := by
  obtain ⟨fd, F⟩ := T.says.def_ 48 (d := dF "law" s_law) rfl
  exact ⟨fd, F, FunD.bindsN (ps := ["_law_script"]) F fun _ _ _ _ _ _ us hl => match us, hl with | [_], _ => rfl⟩
theorem Txt.d_Grove_init (T : Txt K mg) : ∃ fd, FunD K "__init__" "Grove.__init__" (defArgs s_Grove_init) (defBody s_Grove_init) (defScope s_Grove_init) [] [] (He.fAd K ("Grove", some "__init__")) fd ∧ Binds K fd ["self"] [] := by
  obtain ⟨fd, F⟩ := T.says.def_ 49 (d := dM "Grove" "__init__" "Grove.__init__" s_Grove_init) rfl
  exact ⟨fd, F, FunD.bindsN (ps := ["self"]) F fun _ _ _ _ _ _ us hl => match us, hl with | [_], _ => rfl⟩
theorem Txt.d_Grove_kept (T : Txt K mg) : ∃ fd, FunD K "kept" "Grove.kept" (defArgs s_Grove_kept) (defBody s_Grove_kept) (defScope s_Grove_kept) [] [] (He.fAd K ("Grove", some "kept")) fd ∧ Binds K fd ["self", "made", "level", "lives", "span"] [] := by
  obtain ⟨fd, F⟩ := T.says.def_ 50 (d := dM "Grove" "kept" "Grove.kept" s_Grove_kept) rfl
  exact ⟨fd, F, FunD.bindsN (ps := ["self", "made", "level", "lives", "span"]) F fun _ _ _ _ _ _ us hl => match us, hl with | [_, _, _, _, _], _ => rfl⟩
theorem Txt.d_Grove_cell (T : Txt K mg) : ∃ fd, FunD K "cell" "Grove.cell" (defArgs s_Grove_cell) (defBody s_Grove_cell) (defScope s_Grove_cell) [] [] (He.fAd K ("Grove", some "cell")) fd ∧ Binds K fd ["self", "state"] [] := by
  obtain ⟨fd, F⟩ := T.says.def_ 51 (d := dM "Grove" "cell" "Grove.cell" s_Grove_cell) rfl
  exact ⟨fd, F, FunD.bindsN (ps := ["self", "state"]) F fun _ _ _ _ _ _ us hl => match us, hl with | [_, _], _ => rfl⟩
theorem Txt.d_Grove_knit (T : Txt K mg) : ∃ fd, FunD K "knit" "Grove.knit" (defArgs s_Grove_knit) (defBody s_Grove_knit) (defScope s_Grove_knit) [] [] (He.fAd K ("Grove", some "knit")) fd ∧ Binds K fd ["self", "a", "b", "c", "d"] [] := by
  obtain ⟨fd, F⟩ := T.says.def_ 52 (d := dM "Grove" "knit" "Grove.knit" s_Grove_knit) rfl
  exact ⟨fd, F, FunD.bindsN (ps := ["self", "a", "b", "c", "d"]) F fun _ _ _ _ _ _ us hl => match us, hl with | [_, _, _, _, _], _ => rfl⟩
theorem Txt.d_Grove_even (T : Txt K mg) : ∃ fd, FunD K "even" "Grove.even" (defArgs s_Grove_even) (defBody s_Grove_even) (defScope s_Grove_even) [] [] (He.fAd K ("Grove", some "even")) fd ∧ Binds K fd ["self", "level", "state"] [] := by
  obtain ⟨fd, F⟩ := T.says.def_ 53 (d := dM "Grove" "even" "Grove.even" s_Grove_even) rfl
  exact ⟨fd, F, FunD.bindsN (ps := ["self", "level", "state"]) F fun _ _ _ _ _ _ us hl => match us, hl with | [_, _, _], _ => rfl⟩
theorem Txt.d_Grove_asked (T : Txt K mg) : ∃ fd, FunD K "asked" "Grove.asked" (defArgs s_Grove_asked) (defBody s_Grove_asked) (defScope s_Grove_asked) [] [] (He.fAd K ("Grove", some "asked")) fd ∧ Binds K fd ["self", "square"] [] := by
  obtain ⟨fd, F⟩ := T.says.def_ 54 (d := dM "Grove" "asked" "Grove.asked" s_Grove_asked) rfl
  exact ⟨fd, F, FunD.bindsN (ps := ["self", "square"]) F fun _ _ _ _ _ _ us hl => match us, hl with | [_, _], _ => rfl⟩
theorem Txt.d_Grove_leaf (T : Txt K mg) : ∃ fd, FunD K "leaf" "Grove.leaf" (defArgs s_Grove_leaf) (defBody s_Grove_leaf) (defScope s_Grove_leaf) [] [] (He.fAd K ("Grove", some "leaf")) fd ∧ Binds K fd ["self", "state"] [] := by
  obtain ⟨fd, F⟩ := T.says.def_ 55 (d := dM "Grove" "leaf" "Grove.leaf" s_Grove_leaf) rfl
  exact ⟨fd, F, FunD.bindsN (ps := ["self", "state"]) F fun _ _ _ _ _ _ us hl => match us, hl with | [_, _], _ => rfl⟩
theorem Txt.d_Grove_joined (T : Txt K mg) : ∃ fd, FunD K "joined" "Grove.joined" (defArgs s_Grove_joined) (defBody s_Grove_joined) (defScope s_Grove_joined) [] [] (He.fAd K ("Grove", some "joined")) fd ∧ Binds K fd ["self", "a", "b", "c", "d"] [] := by
  obtain ⟨fd, F⟩ := T.says.def_ 56 (d := dM "Grove" "joined" "Grove.joined" s_Grove_joined) rfl
  exact ⟨fd, F, FunD.bindsN (ps := ["self", "a", "b", "c", "d"]) F fun _ _ _ _ _ _ us hl => match us, hl with | [_, _, _, _, _], _ => rfl⟩
theorem Txt.d_Grove_solid (T : Txt K mg) : ∃ fd, FunD K "solid" "Grove.solid" (defArgs s_Grove_solid) (defBody s_Grove_solid) (defScope s_Grove_solid) [] [] (He.fAd K ("Grove", some "solid")) fd ∧ Binds K fd ["self", "level", "state"] [] := by
  obtain ⟨fd, F⟩ := T.says.def_ 57 (d := dM "Grove" "solid" "Grove.solid" s_Grove_solid) rfl
  exact ⟨fd, F, FunD.bindsN (ps := ["self", "level", "state"]) F fun _ _ _ _ _ _ us hl => match us, hl with | [_, _, _], _ => rfl⟩
theorem Txt.d_Grove_level_of (T : Txt K mg) : ∃ fd, FunD K "level_of" "Grove.level_of" (defArgs s_Grove_level_of) (defBody s_Grove_level_of) (defScope s_Grove_level_of) [] [] (He.fAd K ("Grove", some "level_of")) fd ∧ Binds K fd ["self", "square"] [] := by
  obtain ⟨fd, F⟩ := T.says.def_ 58 (d := dM "Grove" "level_of" "Grove.level_of" s_Grove_level_of) rfl
  exact ⟨fd, F, FunD.bindsN (ps := ["self", "square"]) F fun _ _ _ _ _ _ us hl => match us, hl with | [_, _], _ => rfl⟩
theorem Txt.d_Grove_quarters (T : Txt K mg) : ∃ fd, FunD K "quarters" "Grove.quarters" (defArgs s_Grove_quarters) (defBody s_Grove_quarters) (defScope s_Grove_quarters) [] [] (He.fAd K ("Grove", some "quarters")) fd ∧ Binds K fd ["self", "square"] [] := by
  obtain ⟨fd, F⟩ := T.says.def_ 59 (d := dM "Grove" "quarters" "Grove.quarters" s_Grove_quarters) rfl
  exact ⟨fd, F, FunD.bindsN (ps := ["self", "square"]) F fun _ _ _ _ _ _ us hl => match us, hl with | [_, _], _ => rfl⟩
theorem Txt.d_Grove_state_of (T : Txt K mg) : ∃ fd, FunD K "state_of" "Grove.state_of" (defArgs s_Grove_state_of) (defBody s_Grove_state_of) (defScope s_Grove_state_of) [] [] (He.fAd K ("Grove", some "state_of")) fd ∧ Binds K fd ["self", "square"] [] := by
  obtain ⟨fd, F⟩ := T.says.def_ 60 (d := dM "Grove" "state_of" "Grove.state_of" s_Grove_state_of) rfl
  exact ⟨fd, F, FunD.bindsN (ps := ["self", "square"]) F fun _ _ _ _ _ _ us hl => match us, hl with | [_, _], _ => rfl⟩
theorem Txt.d_Grove_living (T : Txt K mg) : ∃ fd, FunD K "living" "Grove.living" (defArgs s_Grove_living) (defBody s_Grove_living) (defScope s_Grove_living) [] [] (He.fAd K ("Grove", some "living")) fd ∧ Binds K fd ["self", "square"] [] := by
  obtain ⟨fd, F⟩ := T.says.def_ 61 (d := dM "Grove" "living" "Grove.living" s_Grove_living) rfl
  exact ⟨fd, F, FunD.bindsN (ps := ["self", "square"]) F fun _ _ _ _ _ _ us hl => match us, hl with | [_, _], _ => rfl⟩
theorem Txt.d_Grove_span (T : Txt K mg) : ∃ fd, FunD K "span" "Grove.span" (defArgs s_Grove_span) (defBody s_Grove_span) (defScope s_Grove_span) [] [] (He.fAd K ("Grove", some "span")) fd ∧ Binds K fd ["self", "square"] [] := by
  obtain ⟨fd, F⟩ := T.says.def_ 62 (d := dM "Grove" "span" "Grove.span" s_Grove_span) rfl
  exact ⟨fd, F, FunD.bindsN (ps := ["self", "square"]) F fun _ _ _ _ _ _ us hl => match us, hl with | [_, _], _ => rfl⟩
theorem Txt.d_Places_init (T : Txt K mg) : ∃ fd, FunD K "__init__" "Places.__init__" (defArgs s_Places_init) (defBody s_Places_init) (defScope s_Places_init) [] [] (He.fAd K ("Places", some "__init__")) fd ∧ Binds K fd ["self", "wanted"] [] := by
  obtain ⟨fd, F⟩ := T.says.def_ 63 (d := dM "Places" "__init__" "Places.__init__" s_Places_init) rfl
  exact ⟨fd, F, FunD.bindsN (ps := ["self", "wanted"]) F fun _ _ _ _ _ _ us hl => match us, hl with | [_, _], _ => rfl⟩
theorem Txt.d_Places_holds (T : Txt K mg) : ∃ fd, FunD K "holds" "Places.holds" (defArgs s_Places_holds) (defBody s_Places_holds) (defScope s_Places_holds) [] [] (He.fAd K ("Places", some "holds")) fd ∧ Binds K fd ["self", "around"] [] := by
  obtain ⟨fd, F⟩ := T.says.def_ 64 (d := dM "Places" "holds" "Places.holds" s_Places_holds) rfl
  exact ⟨fd, F, FunD.bindsN (ps := ["self", "around"]) F fun _ _ _ _ _ _ us hl => match us, hl with | [_, _], _ => rfl⟩
theorem Txt.d_Clause_init (T : Txt K mg) : ∃ fd, FunD K "__init__" "Clause.__init__" (defArgs s_Clause_init) (defBody s_Clause_init) (defScope s_Clause_init) [] [] (He.fAd K ("Clause", some "__init__")) fd ∧ Binds K fd ["self", "taken", "conditions", "made"] [] := by
  obtain ⟨fd, F⟩ := T.says.def_ 65 (d := dM "Clause" "__init__" "Clause.__init__" s_Clause_init) rfl
  exact ⟨fd, F, FunD.bindsN (ps := ["self", "taken", "conditions", "made"]) F fun _ _ _ _ _ _ us hl => match us, hl with | [_, _, _, _], _ => rfl⟩
theorem Txt.d_Clause_fits (T : Txt K mg) : ∃ fd, FunD K "fits" "Clause.fits" (defArgs s_Clause_fits) (defBody s_Clause_fits) (defScope s_Clause_fits) [] [] (He.fAd K ("Clause", some "fits")) fd ∧ Binds K fd ["self", "cell", "around"] [] := by
  obtain ⟨fd, F⟩ := T.says.def_ 66 (d := dM "Clause" "fits" "Clause.fits" s_Clause_fits) rfl
  exact ⟨fd, F, FunD.bindsN (ps := ["self", "cell", "around"]) F fun _ _ _ _ _ _ us hl => match us, hl with | [_, _, _], _ => rfl⟩
theorem Txt.d_Rule_init (T : Txt K mg) : ∃ fd, FunD K "__init__" "Rule.__init__" (defArgs s_Rule_init) (defBody s_Rule_init) (defScope s_Rule_init) [] [] (He.fAd K ("Rule", some "__init__")) fd ∧ Binds K fd ["self", "clauses"] [] := by
  obtain ⟨fd, F⟩ := T.says.def_ 67 (d := dM "Rule" "__init__" "Rule.__init__" s_Rule_init) rfl
  exact ⟨fd, F, FunD.bindsN (ps := ["self", "clauses"]) F fun _ _ _ _ _ _ us hl => match us, hl with | [_, _], _ => rfl⟩
theorem Txt.d_Jumps_init (T : Txt K mg) : ∃ fd, FunD K "__init__" "Jumps.__init__" (defArgs s_Jumps_init) (defBody s_Jumps_init) (defScope s_Jumps_init) [] [] (He.fAd K ("Jumps", some "__init__")) fd ∧ Binds K fd ["self", "grove", "rule"] [] := by
  obtain ⟨fd, F⟩ := T.says.def_ 68 (d := dM "Jumps" "__init__" "Jumps.__init__" s_Jumps_init) rfl
  exact ⟨fd, F, FunD.bindsN (ps := ["self", "grove", "rule"]) F fun _ _ _ _ _ _ us hl => match us, hl with | [_, _, _], _ => rfl⟩
theorem Txt.d_Jumps_by_rule (T : Txt K mg) : ∃ fd, FunD K "by_rule" "Jumps.by_rule" (defArgs s_Jumps_by_rule) (defBody s_Jumps_by_rule) (defScope s_Jumps_by_rule) [] [] (He.fAd K ("Jumps", some "by_rule")) fd ∧ Binds K fd ["self", "square"] [] := by
  obtain ⟨fd, F⟩ := T.says.def_ 69 (d := dM "Jumps" "by_rule" "Jumps.by_rule" s_Jumps_by_rule) rfl
  exact ⟨fd, F, FunD.bindsN (ps := ["self", "square"]) F fun _ _ _ _ _ _ us hl => match us, hl with | [_, _], _ => rfl⟩
theorem Txt.d_Jumps_reckoned (T : Txt K mg) : ∃ fd, FunD K "reckoned" "Jumps.reckoned" (defArgs s_Jumps_reckoned) (defBody s_Jumps_reckoned) (defScope s_Jumps_reckoned) [] [] (He.fAd K ("Jumps", some "reckoned")) fd ∧ Binds K fd ["self", "square", "e"] [] := by
  obtain ⟨fd, F⟩ := T.says.def_ 70 (d := dM "Jumps" "reckoned" "Jumps.reckoned" s_Jumps_reckoned) rfl
  exact ⟨fd, F, FunD.bindsN (ps := ["self", "square", "e"]) F fun _ _ _ _ _ _ us hl => match us, hl with | [_, _, _], _ => rfl⟩
theorem Txt.d_Jumps_check (T : Txt K mg) : ∃ fd, FunD K "check" "Jumps.check" (defArgs s_Jumps_check) (defBody s_Jumps_check) (defScope s_Jumps_check) [] [] (He.fAd K ("Jumps", some "check")) fd ∧ Binds K fd ["self", "square", "e"] [] := by
  obtain ⟨fd, F⟩ := T.says.def_ 71 (d := dM "Jumps" "check" "Jumps.check" s_Jumps_check) rfl
  exact ⟨fd, F, FunD.bindsN (ps := ["self", "square", "e"]) F fun _ _ _ _ _ _ us hl => match us, hl with | [_, _, _], _ => rfl⟩
theorem Txt.d_Jumps_after (T : Txt K mg) : ∃ fd, FunD K "after" "Jumps.after" (defArgs s_Jumps_after) (defBody s_Jumps_after) (defScope s_Jumps_after) [] [] (He.fAd K ("Jumps", some "after")) fd ∧ Binds K fd ["self", "square", "e"] [] := by
  obtain ⟨fd, F⟩ := T.says.def_ 72 (d := dM "Jumps" "after" "Jumps.after" s_Jumps_after) rfl
  exact ⟨fd, F, FunD.bindsN (ps := ["self", "square", "e"]) F fun _ _ _ _ _ _ us hl => match us, hl with | [_, _, _], _ => rfl⟩
end
end Jf
/-! ### a def with its promise -/
namespace Jf
open PySem PySem.Spec PyProof.Rows L2
/-- the def at the place p keeps the promise sp -/
def Ok (P : Program) (w : World) (K : PySem.W.Frag) (mg : Str → Option Value) (base : Heap) (p : Str × Option Str) (ps : List Str) (k : Nat) (sp : Sp) : Prop :=
  ∃ fd, FnOk P w K mg base CX0 k (He.fAd K p) fd ps sp ∧ Binds K fd ps [] ∧ PySem.W.keepIn K (.ref (He.fAd K p)) = true
section
variable {P : Program} {w : World} {K : PySem.W.Frag} {mg : Str → Option Value} {base : Heap}
theorem Ok.of {p : Str × Option Str} {x q : Str} {st : Stmt} {N ps : List Str} {k : Nat} {sp : Sp} (D : ∃ fd, FunD K x q (defArgs st) (defBody st) (defScope st) [] [] (He.fAd K p) fd ∧ Binds K fd ps []) (S : FnScope N ps (defScope st)) (len : ∀ vs H Q E, sp vs H Q E → vs.length = ps.length)
    (hbody : ∀ (cdv : Value) (A : Around) (outer : List Env) (s : Shared) (H : Hp) (vs : List V) (Q : VK) (E : XK), Room k (A.deeper (envOfC q (defScope st) s.heap.objs.size (He.fAd K p) cdv)) → sp vs H Q E →
      ∃ t, PSs (cxOf CX0 P w K mg base N q (defScope st) (He.fAd K p) cdv A outer s H E).nox (defBody st) t ∧ t { nx := fun _ H' => Q .non H', rt := Q } (start N vs) H) : Ok P w K mg base p ps (k + 1) sp := by
  obtain ⟨fd, F, b⟩ := D
  exact ⟨fd, F.ok S len (fun cdv A outer s H vs Q E hr h => let ⟨t, h1, h2⟩ := hbody cdv A outer s H vs Q E hr h; ⟨t, PSs.nox h1, h2⟩), b, F.kp⟩
theorem Ok.mono {p : Str × Option Str} {ps : List Str} {j k : Nat} {sp : Sp} (o : Ok P w K mg base p ps j sp) (h : j ≤ k) : Ok P w K mg base p ps k sp := by
  obtain ⟨fd, F, b, kp⟩ := o
  exact ⟨fd, F.mono h, b, kp⟩
theorem Ok.imp {p : Str × Option Str} {ps : List Str} {k : Nat} {sp sp' : Sp} (o : Ok P w K mg base p ps k sp) (h : ∀ vs H Q E, sp' vs H Q E → sp vs H Q E) : Ok P w K mg base p ps k sp' := by
  obtain ⟨fd, F, b, kp⟩ := o
  exact ⟨fd, F.imp h, b, kp⟩
end
end Jf
/-! JfHead2 -/
set_option autoImplicit true
set_option Elab.async false
set_option linter.all false
set_option maxRecDepth 100000
set_option maxHeartbeats 0
/-! ### the head: the top's run, what it leaves -/
namespace Jf
open PySem PySem.Spec PyProof.Rows L2
abbrev R : PySem.W.OpenRow := PySem.W.OpenLaw.row PySem.Challenge.rw_jumpfield_k57_whole_far_gliding
def tfL : List He.Defn := [("filled", none)]
def refJ (o : Obj) : List Addr := match o.data with
  | .func fd => He.refV fd.code
  | .cls cd => cd.ns :: cd.mro.flatMap He.refV
  | .dict es _ => es.toList.flatMap fun e => He.refV e.val
  | _ => []
def stepJ (g : Addr → Option Obj) (as : List Addr) : List Addr := as.flatMap fun a => match g a with
  | some o => refJ o
  | none => []
def forceL : List Addr → (List Addr → β) → β
  | [], k => k []
  | a :: r, k => HandSHeadRun.frNat a fun a => forceL r fun r => k (a :: r)
theorem forceL_eq (l : List Addr) : ∀ {β : Type} (k : List Addr → β), forceL l k = k l := by
  induction l with
  | nil => intro β k; rfl
  | cons a r ih => intro β k; show HandSHeadRun.frNat a _ = _; rw [HandSHeadRun.frNat_eq, ih]
def forceK : PySem.W.Frag → (PySem.W.Frag → β) → β
  | [], k => k []
  | (a, o) :: r, k => HandSHeadRun.frNat a fun a => forceK r fun r => k ((a, o) :: r)
theorem forceK_eq (l : PySem.W.Frag) : ∀ {β : Type} (k : PySem.W.Frag → β), forceK l k = k l := by
  induction l with
  | nil => intro β k; rfl
  | cons a r ih => intro β k; show HandSHeadRun.frNat a.1 _ = _; rw [HandSHeadRun.frNat_eq, ih]
def asJ (g : Addr → Option Obj) (k : List Addr → β) : β :=
  forceL (stepJ g [mainGlobals]) fun l1 => forceL (stepJ g l1) fun l2 => forceL (stepJ g l2) fun l3 => forceL (stepJ g l3) fun l4 => k (mainGlobals :: l1 ++ l2 ++ l3 ++ l4)
def asK (g : Addr → Option Obj) : List Addr := mainGlobals :: stepJ g [mainGlobals] ++ stepJ g (stepJ g [mainGlobals]) ++ stepJ g (stepJ g (stepJ g [mainGlobals])) ++ stepJ g (stepJ g (stepJ g (stepJ g [mainGlobals])))
theorem asJ_eq {β : Type} (g : Addr → Option Obj) (k : List Addr → β) : asJ g k = k (asK g) := by
  unfold asJ
  rw [forceL_eq, forceL_eq, forceL_eq, forceL_eq]
  rfl
abbrev AlJ : Type := He.AlT × Bool
def obsJ (g : Addr → Option Obj) : AlJ := asJ g fun as => forceK (He.frT g as) fun K => (He.obsT faL fnL [] K, He.tabsB g tfL K)
theorem obsJ_is (g : Addr → Option Obj) : obsJ g = (He.obsT faL fnL [] (He.frT g (asK g)), He.tabsB g tfL (He.frT g (asK g))) := by
  unfold obsJ
  rw [asJ_eq, forceK_eq]
def valJ (w : World) : AlJ := (He.valT fnL [] w, true)
theorem saysJ_of {w : World} {h : Heap} (e : obsJ h.get? = valJ w) : He.SaysX faL fnL [] tfL (fun _ => true) w h (He.frT h.get? (asK h.get?)) := by
  rw [obsJ_is] at e
  have e1 : He.obsT faL fnL [] (He.frT h.get? (asK h.get?)) = He.valT fnL [] w := congrArg (fun z : AlJ => z.1) e
  have e2 : He.tabsB h.get? tfL (He.frT h.get? (asK h.get?)) = true := congrArg (fun z : AlJ => z.2) e
  have key : ∀ p ∈ tfL, PySem.W.codeHdIn (He.frT h.get? (asK h.get?)) (He.cT (He.frT h.get? (asK h.get?)) p).1 (He.cT (He.frT h.get? (asK h.get?)) p).2 = true ∧ ∃ o, h.get? (He.cT (He.frT h.get? (asK h.get?)) p).2 = some o ∧ He.emptyTab o = true := fun p hp => by
    obtain ⟨h3, h4⟩ := He.ba (List.all_eq_true.mp e2 p hp)
    refine ⟨h3, ?_⟩
    cases q : h.get? (He.cT (He.frT h.get? (asK h.get?)) p).2 with
    | none =>
      rw [q] at h4
      cases h4
    | some o =>
      rw [q] at h4
      exact ⟨o, rfl, h4⟩
  exact ⟨e1, rfl, fun p hp => (key p hp).1, fun p hp => by
    obtain ⟨_, o, q, z⟩ := key p hp
    exact He.frT_none q z, fun p hp => by
    obtain ⟨_, o, q, z⟩ := key p hp
    rw [q, He.emptyTab_eq z]⟩
def hkJ : PySem.W.Hook where
  α := AlJ
  obs := fun s => obsJ s.heap.get?
  val := fun w => valJ w
  says := fun w h => ∃ K : PySem.W.Frag, K.In h ∧ He.SaysX faL fnL [] tfL (fun _ => true) w h K
  of := fun _ _ e => ⟨_, He.frT_in, saysJ_of e⟩
  keeps := fun _ _ _ ⟨K, hK, c⟩ k => ⟨K, PySem.W.Frag.In.keeps hK k, ⟨c.t, c.more, c.hd, c.out, fun p hp => k _ _ (c.empty p hp)⟩⟩
def ob (s : PySem.W.SharedT) : AlJ := obsJ (HandSHeadRun.getT s)
theorem ob_eq (s : PySem.W.SharedT) : ob s = hkJ.obs s.abs := by
  have e : HandSHeadRun.getT s = s.abs.heap.get? := funext (HandSHeadRun.getT_eq s)
  show obsJ _ = obsJ _
  rw [e]
end Jf
namespace Jf
open PySem PySem.Spec PyProof.Rows L2
theorem run (w : World) : HandSHeadRun.RunEq R (PySem.W.view R.prog [lawAt]) hkJ ob 8000 looseL w := by
  intro os
  kernel_rfl
end Jf
/-! JfW -/
set_option autoImplicit true
set_option Elab.async false
set_option linter.all false
set_option maxRecDepth 100000
set_option maxHeartbeats 4000000
/-! Words over the layer. -/
namespace Jf
open PySem PySem.Spec PyProof.Rows L2
/-- a comprehension of one name, no test, over a walk -/
theorem lc_map {J : It} {n : Nat} {G : Hp → Prop} {Y : Nat → Hp → V → Hp → Prop} (w : Walk J n G Y) {te : TE} {j : Nat} {vs : List Nat} {σ : L2.St} {H1 : Hp} {D : Addr} {Qd : Hp → Prop} (hw : ∀ x, wipe ((wipe σ vs).set j (some x)) vs = wipe σ vs) (Pv : Nat → Hp → Prop)
    (h0 : Pv 0 (upd H1 D (.lst []))) (hG : ∀ i H, i ≤ n → Pv i H → G H)
    (hs : ∀ i x H H', i < n → Pv i H → Y i H x H' → te ((wipe σ vs).set j (some x)) H' fun y H4 => ∃ acc, H4 D = some (.lst acc) ∧ acc.length < sizeLine ∧ Pv (i + 1) (upd H4 D (.lst (acc ++ [y])))) (hd : ∀ H, Pv n H → Qd H) :
    ∃ W : Nat → Nat → Hp → Prop, (∃ m, W 0 m (upd H1 D (.lst []))) ∧ ∀ i m H, W i m H →
      (J.stop i H ∧ Qd H) ∨ (J.go i H ∧ ∃ Nx : Hp → Prop, (∀ H', Nx H' → ∃ m', m' < m ∧ W (i + 1) m' H') ∧ ∀ x H', J.yld i H x H' → gName j x (wipe σ vs) H' fun σ2 H2 => wipe σ2 vs = wipe σ vs ∧ tYes σ2 H2 fun b H3 =>
        if b = true then te σ2 H3 fun y H4 => ∃ acc, H4 D = some (.lst acc) ∧ acc.length < sizeLine ∧ Nx (upd H4 D (.lst (acc ++ [y]))) else Nx H3) := by
  refine lc_it w Pv h0 hG (fun i x H H' hi p y => ⟨hw x, ?_⟩) hd
  exact hs i x H H' hi p y
end Jf
/-! JfW2 -/
set_option autoImplicit true
/-! Tests whose answer is known. -/
namespace Jf
open PySem PySem.Spec PyProof.Rows L2
section
variable {σ : L2.St} {H : Hp} {ta tb tc : TE} {a b c : Int} {t u : TT}
theorem val_neg (h : Val ta σ H (.int a)) : Val (tUn (rU fun i => V.int (-i)) ta) σ H (.int (-a)) := by
  intro Q q
  exact h _ ⟨a, rfl, q⟩
theorem val_i0 {g : Int → Int → V} (ha : Val ta σ H (.int a)) (hb : Val tb σ H (.int b)) : Val (tOp (rI0 g) ta tb) σ H (g a b) := by
  intro Q q
  refine ha _ ?_
  refine hb _ ?_
  exact ⟨a, b, rfl, rfl, q⟩
theorem val_chain {p p' : Int → Int → Bool} (ha : Val ta σ H (.int a)) (hb : Val tb σ H (.int b)) (hc : Val tc σ H (.int c)) : Val (tChain (rI0 fun i j => V.bl (p i j)) (rI0 fun i j => V.bl (p' i j)) ta tb tc) σ H (.bl (p a b && p' b c)) := by
  intro Q q
  refine ha _ ?_
  refine hb _ ?_
  refine ⟨a, b, rfl, rfl, _, rfl, ?_⟩
  cases h : p a b with
  | false =>
    rw [h] at q
    exact iteF q
  | true =>
    rw [h] at q
    refine iteT ?_
    refine hc _ ?_
    exact ⟨b, c, rfl, rfl, q⟩
theorem ans_test {t : TE} {k : Bool} (h : Val t σ H (.bl k)) : Ans (tTest t) σ H k := by
  intro Q q
  exact h _ ⟨k, rfl, q⟩
theorem ans_or2 {k1 k2 : Bool} (h1 : Ans t σ H k1) (h2 : Ans u σ H k2) : Ans (tOr t u) σ H (k1 || k2) := by
  cases k1 with
  | true => exact ans_or1 h1
  | false => exact ans_or h1 h2
end
end Jf
/-! JfM1 -/
set_option linter.all false
set_option autoImplicit false
/-! Quadtrees, windows of a plane, living cells, spans. -/
namespace Jf
inductive Q where
  | leaf (s : Nat)
  | node (a b c d : Q)
  deriving DecidableEq
abbrev Pl := Int → Int → Nat
abbrev p2 (k : Nat) : Int := (2 : Int) ^ k
theorem p2_succ (k : Nat) : p2 (k + 1) = 2 * p2 k := by
  show (2 : Int) ^ (k + 1) = 2 * (2 : Int) ^ k
  rw [Int.pow_succ]; omega
theorem p2_pos (k : Nat) : 0 < p2 k := by
  induction k with
  | zero => decide
  | succ k ih => rw [p2_succ]; omega
theorem p2_zero : p2 0 = 1 := rfl
theorem p2_nat (k : Nat) : p2 k = ((2 ^ k : Nat) : Int) := by
  show (2 : Int) ^ k = ((2 ^ k : Nat) : Int)
  rw [Int.natCast_pow] <;> rfl
theorem p2_mono {j k : Nat} (h : j ≤ k) : p2 j ≤ p2 k := by
  rw [p2_nat, p2_nat]
  exact Int.ofNat_le.mpr (Nat.pow_le_pow_right (by decide) h)
theorem p2_add (a b : Nat) : p2 (a + b) = p2 a * p2 b := Int.pow_add 2 a b
def win (f : Pl) : Nat → Int → Int → Q
  | 0, x, y => .leaf (f x y)
  | k + 1, x, y => .node (win f k x y) (win f k (x + p2 k) y) (win f k x (y + p2 k)) (win f k (x + p2 k) (y + p2 k))
theorem win_succ (f : Pl) (k : Nat) (x y : Int) : win f (k + 1) x y = .node (win f k x y) (win f k (x + p2 k) y) (win f k x (y + p2 k)) (win f k (x + p2 k) (y + p2 k)) := rfl
def solid : Nat → Nat → Q
  | 0, s => .leaf s
  | k + 1, s => .node (solid k s) (solid k s) (solid k s) (solid k s)
def lev : Q → Nat
  | .leaf _ => 0
  | .node a _ _ _ => lev a + 1
theorem lev_win (f : Pl) : ∀ (k : Nat) (x y : Int), lev (win f k x y) = k
  | 0, _, _ => rfl
  | k + 1, x, y => congrArg (· + 1) (lev_win f k x y)
theorem lev_solid (s : Nat) : ∀ k, lev (solid k s) = k
  | 0 => rfl
  | k + 1 => congrArg (· + 1) (lev_solid s k)
/-- well made: all quarters of one level -/
def wf : Nat → Q → Prop
  | 0, .leaf _ => True
  | k + 1, .node a b c d => wf k a ∧ wf k b ∧ wf k c ∧ wf k d
  | _, _ => False
theorem wf_win (f : Pl) : ∀ (k : Nat) (x y : Int), wf k (win f k x y)
  | 0, _, _ => True.intro
  | k + 1, x, y => ⟨wf_win f k _ _, wf_win f k _ _, wf_win f k _ _, wf_win f k _ _⟩
theorem wf_lev : ∀ {k : Nat} {q : Q}, wf k q → lev q = k
  | 0, .leaf _, _ => rfl
  | k + 1, .node a b c d, h => congrArg (· + 1) (wf_lev h.1)
  | 0, .node .., h => h.elim
  | _ + 1, .leaf _, h => h.elim
theorem win_ext {f g : Pl} : ∀ {k : Nat} {x y x' y' : Int}, (∀ i j : Int, 0 ≤ i → i < p2 k → 0 ≤ j → j < p2 k → f (x + i) (y + j) = g (x' + i) (y' + j)) → win f k x y = win g k x' y'
  | 0, x, y, x', y', h => by
    have e := h 0 0 (by omega) (by decide) (by omega) (by decide)
    show Q.leaf (f x y) = Q.leaf (g x' y')
    rw [Int.add_zero, Int.add_zero, Int.add_zero, Int.add_zero] at e
    rw [e]
  | k + 1, x, y, x', y', h => by
    have pk := p2_pos k
    have ps := p2_succ k
    rw [win_succ, win_succ]
    have a1 : win f k x y = win g k x' y' := win_ext fun i j h1 h2 h3 h4 => h i j h1 (by omega) h3 (by omega)
    have a2 : win f k (x + p2 k) y = win g k (x' + p2 k) y' := win_ext fun i j h1 h2 h3 h4 => by
      have e := h (p2 k + i) j (by omega) (by omega) h3 (by omega)
      rw [← Int.add_assoc, ← Int.add_assoc] at e
      exact e
    have a3 : win f k x (y + p2 k) = win g k x' (y' + p2 k) := win_ext fun i j h1 h2 h3 h4 => by
      have e := h i (p2 k + j) h1 (by omega) (by omega) (by omega)
      rw [← Int.add_assoc, ← Int.add_assoc] at e
      exact e
    have a4 : win f k (x + p2 k) (y + p2 k) = win g k (x' + p2 k) (y' + p2 k) := win_ext fun i j h1 h2 h3 h4 => by
      have e := h (p2 k + i) (p2 k + j) (by omega) (by omega) (by omega) (by omega)
      rw [← Int.add_assoc, ← Int.add_assoc, ← Int.add_assoc, ← Int.add_assoc] at e
      exact e
    rw [a1, a2, a3, a4]
theorem win_inj {f g : Pl} : ∀ {k : Nat} {x y x' y' : Int}, win f k x y = win g k x' y' → ∀ i j : Int, 0 ≤ i → i < p2 k → 0 ≤ j → j < p2 k → f (x + i) (y + j) = g (x' + i) (y' + j)
  | 0, x, y, x', y', h, i, j, h1, h2, h3, h4 => by
    rw [p2_zero] at h2 h4
    obtain rfl : i = 0 := by omega
    obtain rfl : j = 0 := by omega
    rw [Int.add_zero, Int.add_zero, Int.add_zero, Int.add_zero]
    exact Q.leaf.inj h
  | k + 1, x, y, x', y', h, i, j, h1, h2, h3, h4 => by
    have pk := p2_pos k
    have ps := p2_succ k
    rw [win_succ, win_succ] at h
    injection h with a b c d
    by_cases hi : i < p2 k
    · by_cases hj : j < p2 k
      · exact win_inj a i j h1 hi h3 hj
      · have e := win_inj c i (j - p2 k) h1 hi (by omega) (by omega)
        rw [show y + p2 k + (j - p2 k) = y + j by omega, show y' + p2 k + (j - p2 k) = y' + j by omega] at e
        exact e
    · by_cases hj : j < p2 k
      · have e := win_inj b (i - p2 k) j (by omega) (by omega) h3 hj
        rw [show x + p2 k + (i - p2 k) = x + i by omega, show x' + p2 k + (i - p2 k) = x' + i by omega] at e
        exact e
      · have e := win_inj d (i - p2 k) (j - p2 k) (by omega) (by omega) (by omega) (by omega)
        rw [show x + p2 k + (i - p2 k) = x + i by omega, show x' + p2 k + (i - p2 k) = x' + i by omega, show y + p2 k + (j - p2 k) = y + j by omega, show y' + p2 k + (j - p2 k) = y' + j by omega] at e
        exact e
theorem win_solid {f : Pl} {s : Nat} : ∀ {k : Nat} {x y : Int}, (∀ i j : Int, 0 ≤ i → i < p2 k → 0 ≤ j → j < p2 k → f (x + i) (y + j) = s) → win f k x y = solid k s := by
  intro k x y h
  have e : ∀ k x y, win (fun _ _ => s) k x y = solid k s := by
    intro k
    induction k with
    | zero => intro x y; rfl
    | succ k ih => intro x y; rw [win_succ, ih, ih, ih, ih]; rfl
  rw [← e k 0 0]
  exact win_ext fun i j h1 h2 h3 h4 => h i j h1 h2 h3 h4
theorem solid_win (s : Nat) (k : Nat) (x y : Int) : solid k s = win (fun _ _ => s) k x y := (win_solid fun _ _ _ _ _ _ => rfl).symm
theorem wf_solid (k s : Nat) : wf k (solid k s) := by rw [solid_win s k 0 0]; exact wf_win _ _ _ _

/-! ### living cells -/
def lives : Q → Nat
  | .leaf s => if s = 0 then 0 else 1
  | .node a b c d => lives a + lives b + lives c + lives d
theorem lives_zero {f : Pl} : ∀ {k : Nat} {x y : Int}, lives (win f k x y) = 0 ↔ ∀ i j : Int, 0 ≤ i → i < p2 k → 0 ≤ j → j < p2 k → f (x + i) (y + j) = 0
  | 0, x, y => by
    constructor
    · intro h i j h1 h2 h3 h4
      rw [p2_zero] at h2 h4
      obtain rfl : i = 0 := by omega
      obtain rfl : j = 0 := by omega
      rw [Int.add_zero, Int.add_zero]
      have h' : (if f x y = 0 then 0 else 1) = 0 := h
      by_cases e : f x y = 0
      · exact e
      · rw [if_neg e] at h'; cases h'
    · intro h
      have e := h 0 0 (by omega) (by decide) (by omega) (by decide)
      rw [Int.add_zero, Int.add_zero] at e
      show (if f x y = 0 then 0 else 1) = 0
      rw [if_pos e]
  | k + 1, x, y => by
    have pk := p2_pos k
    have ps := p2_succ k
    constructor
    · intro h i j h1 h2 h3 h4
      have h' : lives (win f k x y) + lives (win f k (x + p2 k) y) + lives (win f k x (y + p2 k)) + lives (win f k (x + p2 k) (y + p2 k)) = 0 := h
      by_cases hi : i < p2 k
      · by_cases hj : j < p2 k
        · exact lives_zero.mp (show lives (win f k x y) = 0 by omega) i j h1 hi h3 hj
        · have e := lives_zero.mp (show lives (win f k x (y + p2 k)) = 0 by omega) i (j - p2 k) h1 hi (by omega) (by omega)
          rw [show y + p2 k + (j - p2 k) = y + j by omega] at e
          exact e
      · by_cases hj : j < p2 k
        · have e := lives_zero.mp (show lives (win f k (x + p2 k) y) = 0 by omega) (i - p2 k) j (by omega) (by omega) h3 hj
          rw [show x + p2 k + (i - p2 k) = x + i by omega] at e
          exact e
        · have e := lives_zero.mp (show lives (win f k (x + p2 k) (y + p2 k)) = 0 by omega) (i - p2 k) (j - p2 k) (by omega) (by omega) (by omega) (by omega)
          rw [show y + p2 k + (j - p2 k) = y + j by omega, show x + p2 k + (i - p2 k) = x + i by omega] at e
          exact e
    · intro h
      have a1 : lives (win f k x y) = 0 := lives_zero.mpr fun i j h1 h2 h3 h4 => h i j h1 (by omega) h3 (by omega)
      have a2 : lives (win f k (x + p2 k) y) = 0 := lives_zero.mpr fun i j h1 h2 h3 h4 => by
        rw [Int.add_assoc]
        exact h (p2 k + i) j (by omega) (by omega) h3 (by omega)
      have a3 : lives (win f k x (y + p2 k)) = 0 := lives_zero.mpr fun i j h1 h2 h3 h4 => by
        rw [Int.add_assoc]
        exact h i (p2 k + j) h1 (by omega) (by omega) (by omega)
      have a4 : lives (win f k (x + p2 k) (y + p2 k)) = 0 := lives_zero.mpr fun i j h1 h2 h3 h4 => by
        rw [Int.add_assoc, Int.add_assoc]
        exact h (p2 k + i) (p2 k + j) (by omega) (by omega) (by omega) (by omega)
      show lives (win f k x y) + lives (win f k (x + p2 k) y) + lives (win f k x (y + p2 k)) + lives (win f k (x + p2 k) (y + p2 k)) = 0
      omega
theorem lives_node (a b c d : Q) : lives (.node a b c d) = lives a + lives b + lives c + lives d := rfl

/-! ### the living cells listed -/
def cellsQ : Q → Nat → Int → Int → List (Int × Int × Nat)
  | .leaf s, _, x, y => if s = 0 then [] else [(x, y, s)]
  | .node a b c d, k, x, y => cellsQ a (k - 1) x y ++ (cellsQ b (k - 1) (x + p2 (k - 1)) y ++ (cellsQ c (k - 1) x (y + p2 (k - 1)) ++ cellsQ d (k - 1) (x + p2 (k - 1)) (y + p2 (k - 1))))
theorem cellsQ_mem {f : Pl} : ∀ {k : Nat} {x y : Int} {u v : Int} {s : Nat}, (u, v, s) ∈ cellsQ (win f k x y) k x y ↔ (x ≤ u ∧ u < x + p2 k ∧ y ≤ v ∧ v < y + p2 k ∧ f u v = s ∧ s ≠ 0)
  | 0, x, y, u, v, s => by
    show (u, v, s) ∈ (if f x y = 0 then [] else [(x, y, f x y)]) ↔ _
    rw [p2_zero]
    by_cases e : f x y = 0
    · rw [if_pos e]
      constructor
      · intro h; cases h
      · rintro ⟨h1, h2, h3, h4, h5, h6⟩
        obtain rfl : u = x := by omega
        obtain rfl : v = y := by omega
        rw [e] at h5
        exact (h6 h5.symm).elim
    · rw [if_neg e, List.mem_singleton]
      constructor
      · intro h
        injection h with h1 h2
        injection h2 with h2 h3
        subst h1 h2 h3
        exact ⟨by omega, by omega, by omega, by omega, rfl, e⟩
      · rintro ⟨h1, h2, h3, h4, h5, h6⟩
        obtain rfl : u = x := by omega
        obtain rfl : v = y := by omega
        rw [h5]
  | k + 1, x, y, u, v, s => by
    have pk := p2_pos k
    have ps := p2_succ k
    show (u, v, s) ∈ cellsQ (win f k x y) k x y ++ (cellsQ (win f k (x + p2 k) y) k (x + p2 k) y ++ (cellsQ (win f k x (y + p2 k)) k x (y + p2 k) ++ cellsQ (win f k (x + p2 k) (y + p2 k)) k (x + p2 k) (y + p2 k))) ↔ _
    rw [List.mem_append, List.mem_append, List.mem_append, cellsQ_mem, cellsQ_mem, cellsQ_mem, cellsQ_mem]
    constructor
    · rintro (⟨h1, h2, h3, h4, h5, h6⟩ | ⟨h1, h2, h3, h4, h5, h6⟩ | ⟨h1, h2, h3, h4, h5, h6⟩ | ⟨h1, h2, h3, h4, h5, h6⟩) <;> exact ⟨by omega, by omega, by omega, by omega, h5, h6⟩
    · rintro ⟨h1, h2, h3, h4, h5, h6⟩
      by_cases hi : u < x + p2 k
      · by_cases hj : v < y + p2 k
        · exact .inl ⟨h1, hi, h3, hj, h5, h6⟩
        · exact .inr (.inr (.inl ⟨h1, hi, by omega, by omega, h5, h6⟩))
      · by_cases hj : v < y + p2 k
        · exact .inr (.inl ⟨by omega, by omega, h3, hj, h5, h6⟩)
        · exact .inr (.inr (.inr ⟨by omega, by omega, by omega, by omega, h5, h6⟩))
theorem cellsQ_nodup {f : Pl} : ∀ {k : Nat} {x y : Int}, (cellsQ (win f k x y) k x y).Nodup
  | 0, x, y => by
    show (if f x y = 0 then [] else [(x, y, f x y)]).Nodup
    split
    · exact List.nodup_nil
    · simp
  | k + 1, x, y => by
    have pk := p2_pos k
    show (cellsQ (win f k x y) k x y ++ (cellsQ (win f k (x + p2 k) y) k (x + p2 k) y ++ (cellsQ (win f k x (y + p2 k)) k x (y + p2 k) ++ cellsQ (win f k (x + p2 k) (y + p2 k)) k (x + p2 k) (y + p2 k)))).Nodup
    refine List.nodup_append.mpr ⟨cellsQ_nodup, List.nodup_append.mpr ⟨cellsQ_nodup, List.nodup_append.mpr ⟨cellsQ_nodup, cellsQ_nodup, ?_⟩, ?_⟩, ?_⟩
    · rintro ⟨u, v, s⟩ h1 _ h2 rfl
      rw [cellsQ_mem] at h1 h2
      omega
    · rintro ⟨u, v, s⟩ h1 _ h2 rfl
      rw [List.mem_append, cellsQ_mem, cellsQ_mem] at h2
      rw [cellsQ_mem] at h1
      omega
    · rintro ⟨u, v, s⟩ h1 _ h2 rfl
      rw [List.mem_append, List.mem_append, cellsQ_mem, cellsQ_mem, cellsQ_mem] at h2
      rw [cellsQ_mem] at h1
      omega
theorem cellsQ_length : ∀ (q : Q) (k : Nat) (x y : Int), (cellsQ q k x y).length = lives q
  | .leaf s, k, x, y => by
    show (if s = 0 then [] else [(x, y, s)]).length = if s = 0 then 0 else 1
    split <;> rfl
  | .node a b c d, k, x, y => by
    show (cellsQ a (k - 1) x y ++ (cellsQ b (k - 1) (x + p2 (k - 1)) y ++ (cellsQ c (k - 1) x (y + p2 (k - 1)) ++ cellsQ d (k - 1) (x + p2 (k - 1)) (y + p2 (k - 1))))).length = lives a + lives b + lives c + lives d
    rw [List.length_append, List.length_append, List.length_append, cellsQ_length, cellsQ_length, cellsQ_length, cellsQ_length]
    omega

/-! ### spans -/
abbrev Bx := Int × Int × Int × Int
def roundBoth : Option Bx → Bx → Bx
  | none, o => o
  | some (a, b, c, d), (a', b', c', d') => (min a a', min b b', max (a + c) (a' + c') - min a a', max (b + d) (b' + d') - min b b')
def roundAt (h : Int) (at_ : Nat) (found : Option Bx) : Option Bx → Option Bx
  | none => found
  | some (a, b, c, d) => some (roundBoth found (a + h * ((at_ : Int) % 2), b + h * ((at_ : Int) / 2), c, d))
def roundFour (s0 s1 s2 s3 : Option Bx) (h : Int) : Option Bx := roundAt h 3 (roundAt h 2 (roundAt h 1 (roundAt h 0 none s0) s1) s2) s3
def spanQ : Q → Option Bx
  | .leaf s => if s = 0 then none else some (0, 0, 1, 1)
  | .node a b c d => roundFour (spanQ a) (spanQ b) (spanQ c) (spanQ d) (p2 (lev a))
/-- a box within bounds -/
def Within (l t r b : Int) : Option Bx → Prop
  | none => True
  | some (x, y, w, h) => l ≤ x ∧ t ≤ y ∧ x + w ≤ r ∧ y + h ≤ b
theorem within_roundAt {h : Int} {at_ : Nat} {l t r b : Int} {found s : Option Bx} (hf : Within l t r b found) (hs : Within (l - h * ((at_ : Int) % 2)) (t - h * ((at_ : Int) / 2)) (r - h * ((at_ : Int) % 2)) (b - h * ((at_ : Int) / 2)) s) : Within l t r b (roundAt h at_ found s) := by
  match found, s, hf, hs with
  | found, none, hf, _ => exact hf
  | none, some (x, y, w, hh), _, hs =>
    obtain ⟨h1, h2, h3, h4⟩ := hs
    exact ⟨by omega, by omega, by omega, by omega⟩
  | some (x', y', w', hh'), some (x, y, w, hh), hf, hs =>
    obtain ⟨h1, h2, h3, h4⟩ := hs
    obtain ⟨g1, g2, g3, g4⟩ := hf
    exact ⟨by omega, by omega, by omega, by omega⟩
theorem within_span {f : Pl} : ∀ {k : Nat} {x y : Int} {l t r b : Int}, (∀ i j : Int, 0 ≤ i → i < p2 k → 0 ≤ j → j < p2 k → f (x + i) (y + j) ≠ 0 → l ≤ i ∧ i < r ∧ t ≤ j ∧ j < b) → Within l t r b (spanQ (win f k x y))
  | 0, x, y, l, t, r, b, h => by
    show Within l t r b (if f x y = 0 then none else some (0, 0, 1, 1))
    by_cases e : f x y = 0
    · rw [if_pos e]; exact True.intro
    · rw [if_neg e]
      have z := h 0 0 (by omega) (by decide) (by omega) (by decide) (by rw [Int.add_zero, Int.add_zero]; exact e)
      exact ⟨by omega, by omega, by omega, by omega⟩
  | k + 1, x, y, l, t, r, b, h => by
    have pk := p2_pos k
    have ps := p2_succ k
    show Within l t r b (roundFour (spanQ (win f k x y)) (spanQ (win f k (x + p2 k) y)) (spanQ (win f k x (y + p2 k))) (spanQ (win f k (x + p2 k) (y + p2 k))) (p2 (lev (win f k x y))))
    rw [lev_win]
    refine within_roundAt (within_roundAt (within_roundAt (within_roundAt True.intro ?_) ?_) ?_) ?_
    · refine within_span fun i j h1 h2 h3 h4 e => ?_
      have z := h i j h1 (by omega) h3 (by omega) e
      simp only [Int.natCast_zero] at *
      omega
    · refine within_span fun i j h1 h2 h3 h4 e => ?_
      have z := h (p2 k + i) j (by omega) (by omega) h3 (by omega) (by rw [← Int.add_assoc]; exact e)
      simp only [Int.natCast_one] at *
      omega
    · refine within_span fun i j h1 h2 h3 h4 e => ?_
      have z := h i (p2 k + j) h1 (by omega) (by omega) (by omega) (by rw [← Int.add_assoc]; exact e)
      have e1 : ((2 : Nat) : Int) % 2 = 0 := by decide
      have e2 : ((2 : Nat) : Int) / 2 = 1 := by decide
      rw [e1, e2]
      omega
    · refine within_span fun i j h1 h2 h3 h4 e => ?_
      have z := h (p2 k + i) (p2 k + j) (by omega) (by omega) (by omega) (by omega) (by rw [← Int.add_assoc, ← Int.add_assoc]; exact e)
      have e1 : ((3 : Nat) : Int) % 2 = 1 := by decide
      have e2 : ((3 : Nat) : Int) / 2 = 1 := by decide
      rw [e1, e2]
      omega
end Jf
/-! JfP1 -/
set_option autoImplicit true
set_option Elab.async false
set_option linter.all false
set_option maxRecDepth 100000
set_option maxHeartbeats 4000000
/-! Defs that change nothing: numbers, boxes. -/
namespace Jf
open PySem PySem.Spec PyProof.Rows L2
section
variable {P : Program} {w : World} {K : PySem.W.Frag} {mg : Str → Option Value} {base : Heap}
/-- an int is a whole number -/
def spWhole : Sp := fun vs H Q _ => ∃ n : Int, vs = [.int n] ∧ Q (.bl true) H
theorem sc_is_whole : FnScope [("thing" : Str)] ["thing"] (defScope s_is_whole) := ⟨rfl, rfl, rfl, by decide +kernel, rfl, by decide +kernel, by decide +kernel⟩
theorem ok_is_whole (T : Txt K mg) : Ok P w K mg base ("is_whole", none) ["thing"] 1 spWhole := by
  refine Ok.of T.d_is_whole sc_is_whole (fun vs H Q E h => ?_) (fun cdv A outer s H vs Q E hr h => ?_)
  · obtain ⟨n, rfl, _⟩ := h
    rfl
  obtain ⟨n, rfl, q⟩ := h
  refine ⟨_, (pss_one (ps_ret (pe_and (pe_callB call_isi (by rfl) T.f_isinstance (by decide +kernel) (pa_cons (pv 0) (pa_cons (pe_bltn (v := .ty "int") (by rfl) T.f_int (by decide +kernel) rfl) pa_nil))) (pe_one (pe_not (pe_callB call_isi (by rfl) T.f_isinstance (by decide +kernel) (pa_cons (pv 0) (pa_cons (pe_bltn (v := .ty "bool") (by rfl) T.f_bool (by decide +kernel) rfl) pa_nil)))))))), ?_⟩
  refine ⟨_, rfl, .int n, .ty "int", .type "int", .type "int", true, rfl, .ty _, .base (.int _), kit_ty (by decide +kernel), _, rfl, iteT ?_⟩
  exact ⟨_, rfl, .int n, .ty "bool", .type "int", .type "bool", false, rfl, .ty _, .base (.int _), kit_ty (by decide +kernel), _, rfl, q⟩
/-- a state -/
def spState : Sp := fun vs H Q _ => ∃ n : Nat, vs = [.int n] ∧ n ≤ 7 ∧ Q (.bl true) H
theorem sc_is_state : FnScope [("thing" : Str)] ["thing"] (defScope s_is_state) := ⟨rfl, rfl, rfl, by decide +kernel, rfl, by decide +kernel, by decide +kernel⟩
theorem ok_is_state (T : Txt K mg) : Ok P w K mg base ("is_state", none) ["thing"] 2 spState := by
  obtain ⟨fd_is_whole, G_is_whole, b_is_whole, k_is_whole⟩ := ok_is_whole (P := P) (w := w) (base := base) T
  refine Ok.of T.d_is_state sc_is_state (fun vs H Q E h => ?_) (fun cdv A outer s H vs Q E hr h => ?_)
  · obtain ⟨n, rfl, _⟩ := h
    rfl
  obtain ⟨n, rfl, hn, q⟩ := h
  refine ⟨_, (pss_one (ps_ret (pe_and (pe_call G_is_whole (hr.mono (by omega)) (by rfl) T.g_is_whole k_is_whole b_is_whole .nil pass0 (pa_cons (pv 0) pa_nil)) (pe_one (pe_chain op_le op_le pe_int (pv 0) pe_int))))), ?_⟩
  refine ⟨_, rfl, _, rfl, _, rfl, iteT ?_⟩
  refine ⟨_, rfl, _, _, rfl, rfl, _, rfl, ?_⟩
  rw [decide_eq_true (show (0 : Int) ≤ n by omega)]
  refine iteT ⟨_, _, rfl, rfl, ?_⟩
  show Q (V.bl (decide ((n : Int) ≤ 7))) H
  rw [decide_eq_true (show (n : Int) ≤ 7 by omega)]
  exact q

/-! ### boxes as values -/
/-- a box (or None) as a value -/
def BxV (H : Hp) : Option Bx → V → Prop
  | none, v => v = .non
  | some (a, b, c, d), v => ∃ p, v = .ref p ∧ H p = some (.tup [.int a, .int b, .int c, .int d])
theorem BxV.same {H H' : Hp} {o : Option Bx} {v : V} (h : BxV H o v) (e : Same H H') : BxV H' o v := by
  match o, h with
  | none, h => exact h
  | some (a, b, c, d), ⟨p, h1, h2⟩ => exact ⟨p, h1, e _ _ h2⟩
theorem same_new {H : Hp} {p : Addr} (h : H p = none) (o : HO) : Same H (upd H p o) := fun b u q => by rw [upd_ne (ne_of_none q h)]; exact q
theorem min_if {a b : Int} : (if b < a then b else a) = min a b := by
  by_cases h : b < a
  · rw [if_pos h]; omega
  · rw [if_neg h]; omega
theorem max_if {a b : Int} : (if b > a then b else a) = max a b := by
  by_cases h : b > a
  · rw [if_pos h]; omega
  · rw [if_neg h]; omega
def spRoundBoth : Sp := fun vs H Q _ => ∃ (v : V) (o : Option Bx) (p : Addr) (a b c d : Int), vs = [v, .ref p] ∧ BxV H o v ∧ H p = some (.tup [.int a, .int b, .int c, .int d]) ∧
  ∀ v' H', Same H H' → BxV H' (some (roundBoth o (a, b, c, d))) v' → Q v' H'
theorem sc_round_both : FnScope [("one" : Str), ("other" : Str), ("left" : Str), ("top" : Str), ("right" : Str), ("low" : Str)] ["one", "other"] (defScope s_round_both) := ⟨rfl, rfl, rfl, by decide +kernel, rfl, by decide +kernel, by decide +kernel⟩
theorem ok_round_both (T : Txt K mg) : Ok P w K mg base ("round_both", none) ["one", "other"] 1 spRoundBoth := by
  refine Ok.of T.d_round_both sc_round_both (fun vs H Q E h => ?_) (fun cdv A outer s H vs Q E hr h => ?_)
  · obtain ⟨v, o, p, a, b, c, d, rfl, _⟩ := h
    rfl
  obtain ⟨v, o, p, a, b, c, d, rfl, hv, hp, q⟩ := h
  refine ⟨_, (pss_cons (ps_if (pt_cmpR op_isN (pv 0) pe_non (nomark _)) (pss_one (ps_ret (pv 1))) pss_nil)
      (pss_cons (ps_set (i := 2) sc_round_both.nd rfl (Or.inl rfl) (pe_callB (call_min2 rfl) (by rfl) T.f_min (by decide +kernel) (pa_cons (pe_ix ix_tup (pv 0) pe_int (fun _ _ => rfl)) (pa_cons (pe_ix ix_tup (pv 1) pe_int (fun _ _ => rfl)) pa_nil))))
      (pss_cons (ps_set (i := 3) sc_round_both.nd rfl (Or.inl rfl) (pe_callB (call_min2 rfl) (by rfl) T.f_min (by decide +kernel) (pa_cons (pe_ix ix_tup (pv 0) pe_int (fun _ _ => rfl)) (pa_cons (pe_ix ix_tup (pv 1) pe_int (fun _ _ => rfl)) pa_nil))))
      (pss_cons (ps_set (i := 4) sc_round_both.nd rfl (Or.inl rfl) (pe_callB (call_max2 rfl) (by rfl) T.f_max (by decide +kernel) (pa_cons (pe_op op_add (pe_ix ix_tup (pv 0) pe_int (fun _ _ => rfl)) (pe_ix ix_tup (pv 0) pe_int (fun _ _ => rfl))) (pa_cons (pe_op op_add (pe_ix ix_tup (pv 1) pe_int (fun _ _ => rfl)) (pe_ix ix_tup (pv 1) pe_int (fun _ _ => rfl))) pa_nil))))
      (pss_cons (ps_set (i := 5) sc_round_both.nd rfl (Or.inl rfl) (pe_callB (call_max2 rfl) (by rfl) T.f_max (by decide +kernel) (pa_cons (pe_op op_add (pe_ix ix_tup (pv 0) pe_int (fun _ _ => rfl)) (pe_ix ix_tup (pv 0) pe_int (fun _ _ => rfl))) (pa_cons (pe_op op_add (pe_ix ix_tup (pv 1) pe_int (fun _ _ => rfl)) (pe_ix ix_tup (pv 1) pe_int (fun _ _ => rfl))) pa_nil))))
      (pss_one (ps_ret (pe_tup (pa_cons (pv 2) (pa_cons (pv 3) (pa_cons (pe_op op_sub (pv 4) (pv 2)) (pa_cons (pe_op op_sub (pv 5) (pv 3)) pa_nil)))))))))))), ?_⟩
  match o, hv with
  | none, hv =>
    obtain rfl : v = .non := hv
    refine ⟨_, rfl, rfl, _, rfl, iteT ?_⟩
    exact ⟨_, rfl, q _ _ (Same.refl H) ⟨p, rfl, hp⟩⟩
  | some (a', b', c', d'), hv =>
    obtain ⟨p', rfl, hp'⟩ := hv
    refine ⟨_, rfl, rfl, _, rfl, iteF ?_⟩
    refine ⟨_, rfl, _, _, _, _, rfl, rfl, SqT.of hp', rfl, _, rfl, _, _, _, _, rfl, rfl, SqT.of hp, rfl, _, _, rfl, ?_⟩
    refine ⟨_, rfl, _, _, _, _, rfl, rfl, SqT.of hp', rfl, _, rfl, _, _, _, _, rfl, rfl, SqT.of hp, rfl, _, _, rfl, ?_⟩
    refine ⟨_, rfl, _, _, _, _, rfl, rfl, SqT.of hp', rfl, _, rfl, _, _, _, _, rfl, rfl, SqT.of hp', rfl, _, _, rfl, rfl, _, rfl, _, _, _, _, rfl, rfl, SqT.of hp, rfl, _, rfl, _, _, _, _, rfl, rfl, SqT.of hp, rfl, _, _, rfl, rfl, _, _, rfl, ?_⟩
    refine ⟨_, rfl, _, _, _, _, rfl, rfl, SqT.of hp', rfl, _, rfl, _, _, _, _, rfl, rfl, SqT.of hp', rfl, _, _, rfl, rfl, _, rfl, _, _, _, _, rfl, rfl, SqT.of hp, rfl, _, rfl, _, _, _, _, rfl, rfl, SqT.of hp, rfl, _, _, rfl, rfl, _, _, rfl, ?_⟩
    refine ⟨_, rfl, _, rfl, _, rfl, _, rfl, _, _, rfl, rfl, _, rfl, _, rfl, _, _, rfl, rfl, (by show 4 ≤ sizeLine; decide), fun r hr' => ?_⟩
    refine q _ _ (same_new hr' _) ⟨r, rfl, ?_⟩
    rw [upd_same, min_if, min_if, max_if, max_if]

def roundList (h : Int) : Nat → Option Bx → List (Option Bx) → Option Bx
  | _, f, [] => f
  | k, f, s :: r => roundList h (k + 1) (roundAt h k f s) r
theorem roundList_snoc (h : Int) (s : Option Bx) : ∀ (l : List (Option Bx)) (k : Nat) (f : Option Bx), roundList h k f (l ++ [s]) = roundAt h (k + l.length) (roundList h k f l) s
  | [], k, f => rfl
  | a :: r, k, f => by
    show roundList h (k + 1) (roundAt h k f a) (r ++ [s]) = roundAt h (k + (r.length + 1)) (roundList h (k + 1) (roundAt h k f a) r) s
    rw [roundList_snoc h s r, show k + 1 + r.length = k + (r.length + 1) by omega]
/-- values that stand for boxes, one by one -/
def BxVs (H : Hp) (ss : List (Option Bx)) (vs : List V) : Prop := vs.length = ss.length ∧ ∀ (i : Nat) s v, ss[i]? = some s → vs[i]? = some v → BxV H s v
def spRoundFour (K : PySem.W.Frag) : Sp := fun vs H Q _ => ∃ (a : Addr) (h : Int) (ss : List (Option Bx)) (us : List V), vs = [.ref a, .int h] ∧ SqL K H a us ∧ BxVs H ss us ∧ ss.length ≤ 4 ∧
  ∀ v H', Same H H' → BxV H' (roundList h 0 none ss) v → Q v H'
theorem sc_round_four : FnScope [("spans" : Str), ("half" : Str), ("found" : Str), ("at" : Str), ("span" : Str), ("left" : Str), ("top" : Str)] ["spans", "half"] (defScope s_round_four) := ⟨rfl, rfl, rfl, by decide +kernel, rfl, by decide +kernel, by decide +kernel⟩
theorem ok_round_four (T : Txt K mg) : Ok P w K mg base ("round_four", none) ["spans", "half"] 2 (spRoundFour K) := by
  obtain ⟨fd_round_both, G_round_both, b_round_both, k_round_both⟩ := ok_round_both (P := P) (w := w) (base := base) T
  refine Ok.of T.d_round_four sc_round_four (fun vs H Q E h => ?_) (fun cdv A outer s H vs Q E hr h => ?_)
  · obtain ⟨a, h, ss, us, rfl, _⟩ := h
    rfl
  obtain ⟨a, h, ss, us, rfl, hu, hs, h4, q⟩ := h
  refine ⟨_, (pss_cons (ps_set (i := 2) sc_round_four.nd rfl (Or.inl rfl) pe_non)
      (pss_cons (ps_for PassesOwn.never (by rfl) (pi_enum (by rfl) T.f_enumerate (pa_cons (pv 0) pa_nil)) (pg_tup (by rfl) (pgs_cons (pg_name (i := 3) sc_round_four.nd rfl (Or.inl rfl)) (pgs_cons (pg_name (i := 4) sc_round_four.nd rfl (Or.inl rfl)) pgs_nil))) (pss_one (ps_if (pt_cmpR op_notN (pv 4) pe_non (nomark _)) (pss_cons (ps_set (i := 5) sc_round_four.nd rfl (Or.inl rfl) (pe_op op_add (pe_ix ix_tup (pv 4) pe_int (fun _ _ => rfl)) (pe_op op_mul (pv 1) (pe_op op_mod (pv 3) pe_int))))
      (pss_cons (ps_set (i := 6) sc_round_four.nd rfl (Or.inl rfl) (pe_op op_add (pe_ix ix_tup (pv 4) pe_int (fun _ _ => rfl)) (pe_op op_mul (pv 1) (pe_op op_fdiv (pv 3) pe_int))))
      (pss_one (ps_set (i := 2) sc_round_four.nd rfl (Or.inl rfl) (pe_call G_round_both (hr.mono (by omega)) (by rfl) T.g_round_both k_round_both b_round_both .nil pass0 (pa_cons (pv 2) (pa_cons (pe_tup (pa_cons (pv 5) (pa_cons (pv 6) (pa_cons (pe_ix ix_tup (pv 4) pe_int (fun _ _ => rfl)) (pa_cons (pe_ix ix_tup (pv 4) pe_int (fun _ _ => rfl)) pa_nil))))) pa_nil))))))) pss_nil)))
      (pss_one (ps_ret (pv 2))))), ?_⟩
  refine ⟨_, rfl, _, _, rfl, hu, for_it walk_enum (fun i σ H' => ∃ (v : V) (x y l t : Option V), σ = [some (.ref a), some (.int h), some v, x, y, l, t] ∧ Same H H' ∧ BxV H' (roundList h 0 none (ss.take i)) v)
    ⟨.non, none, none, none, none, rfl, Same.refl H, rfl⟩ (fun i σ H' _ ⟨_, _, _, _, _, _, e, _⟩ => e.seq hu) ?_ ?_⟩
  · rintro i x σ H1 H2 hi ⟨v, x0, y0, l0, t0, rfl, e1, hv⟩ ⟨p, z1, z2, rfl, hp, rfl, ez1, ez2⟩
    obtain rfl : V.int i = z1 := Option.some.inj ez1
    have e2 : Same H (upd H1 p (.tup [.int i, z2])) := e1.trans (same_new hp _)
    refine ⟨p, _, rfl, SqT.of upd_same, rfl, _, _, rfl, _, _, rfl, rfl, ?_⟩
    have hlt : i < ss.length := by rw [← hs.1]; exact hi
    have es : ss[i]? = some ss[i] := List.getElem?_eq_getElem hlt
    have et : ss.take (i + 1) = ss.take i ++ [ss[i]] := by rw [List.take_succ, es]; rfl
    have el : (ss.take i).length = i := by rw [List.length_take]; omega
    have hb := (hs.2 i _ _ es ez2).same e2
    rw [et, roundList_snoc, el, Nat.zero_add]
    match ss[i], hb with
    | none, hb =>
      obtain rfl : z2 = .non := hb
      refine ⟨_, rfl, rfl, _, rfl, iteF ?_⟩
      exact ⟨v, _, _, _, _, rfl, e2, hv.same (same_new hp _)⟩
    | some (a', b', c', d'), hb =>
      obtain ⟨r, rfl, hr2⟩ := hb
      refine ⟨_, rfl, rfl, _, rfl, iteT ?_⟩
      refine ⟨_, rfl, _, _, _, _, rfl, rfl, SqT.of hr2, rfl, _, rfl, _, rfl, _, _, rfl, rfl, (by show (0 : Int) < 2; decide), _, _, rfl, rfl, .inr ⟨by omega, by omega⟩, _, _, rfl, rfl, ?_⟩
      refine ⟨_, rfl, _, _, _, _, rfl, rfl, SqT.of hr2, rfl, _, rfl, _, rfl, _, _, rfl, rfl, ⟨by decide, by decide⟩, _, _, rfl, rfl, .inr ⟨by omega, by omega⟩, _, _, rfl, rfl, ?_⟩
      refine ⟨_, rfl, _, rfl, _, rfl, _, rfl, _, _, _, _, rfl, rfl, SqT.of hr2, rfl, _, rfl, _, _, _, _, rfl, rfl, SqT.of hr2, rfl, (by show 4 ≤ sizeLine; decide), fun u hu' => ?_⟩
      refine ⟨v, _, u, _, _, _, _, rfl, (hv.same (same_new hp _)).same (same_new hu' _), upd_same, fun v' H' e3 hv' => ?_⟩
      exact ⟨v', _, _, _, _, rfl, (e2.trans (same_new hu' _)).trans e3, hv'⟩
  · rintro σ H1 ⟨v, x0, y0, l0, t0, rfl, e1, hv⟩
    have e : ss.take us.length = ss := List.take_of_length_le (by rw [hs.1]; exact Nat.le_refl _)
    rw [e] at hv
    exact ⟨_, rfl, q _ _ e1 hv⟩
end
end Jf
/-! JfR1 -/
set_option autoImplicit true
/-! A rule asked. -/
namespace Jf
open PySem PySem.Spec PyProof.Rows L2
/-- a clause: the state taken, the wishes of its conditions on places, what it makes -/
structure Cl where
  taken : Option Nat
  wants : List (List (Option Nat))
  made : Nat
def oV : Option Nat → V
  | none => .non
  | some n => .int (n : Nat)
def okW : List (Option Nat) → List Nat → Bool
  | w :: ws, s :: ss => (match w with
    | none => true
    | some n => decide (n = s)) && okW ws ss
  | _, _ => true
def okT : Option Nat → Nat → Bool
  | none, _ => true
  | some n, c => decide (n = c)
def fitsC (c : Cl) (cell : Nat) (ar : List Nat) : Bool := okT c.taken cell && c.wants.all fun w => okW w ar
def firstFit : List Cl → Nat → List Nat → Nat
  | [], cell, _ => cell
  | c :: r, cell, ar => if fitsC c cell ar = true then c.made else firstFit r cell ar
abbrev CP (K : PySem.W.Frag) : Addr := He.ga K "Places"
abbrev CC (K : PySem.W.Frag) : Addr := He.ga K "Clause"
abbrev CRu (K : PySem.W.Frag) : Addr := He.ga K "Rule"
def PlacesAt (K : PySem.W.Frag) (H : Hp) (p : Addr) (ws : List (Option Nat)) : Prop := ∃ d l, H p = some (.ins (CP K) d [("wanted", .ref l)]) ∧ H l = some (.lst (ws.map oV))
def ClauseAt (K : PySem.W.Frag) (H : Hp) (p : Addr) (c : Cl) : Prop := ∃ d l, ∃ ps : List Addr, H p = some (.ins (CC K) d [("taken", oV c.taken), ("conditions", .ref l), ("made", .int (c.made : Nat))]) ∧ H l = some (.lst (ps.map V.ref)) ∧ ps.length = c.wants.length ∧ ∀ (i : Nat) q ws, ps[i]? = some q → c.wants[i]? = some ws → PlacesAt K H q ws
def RuleIs (K : PySem.W.Frag) (H : Hp) (r : Addr) (cs : List Cl) : Prop := ∃ d l, ∃ ps : List Addr, H r = some (.ins (CRu K) d [("clauses", .ref l)]) ∧ H l = some (.lst (ps.map V.ref)) ∧ ps.length = cs.length ∧ ∀ (i : Nat) q c, ps[i]? = some q → cs[i]? = some c → ClauseAt K H q c
theorem PlacesAt.same {K : PySem.W.Frag} {H H' : Hp} {p : Addr} {ws : List (Option Nat)} (h : PlacesAt K H p ws) (e : Same H H') : PlacesAt K H' p ws := by
  obtain ⟨d, l, h1, h2⟩ := h
  exact ⟨d, l, e _ _ h1, e _ _ h2⟩
theorem ClauseAt.same {K : PySem.W.Frag} {H H' : Hp} {p : Addr} {c : Cl} (h : ClauseAt K H p c) (e : Same H H') : ClauseAt K H' p c := by
  obtain ⟨d, l, ps, h1, h2, h3, h4⟩ := h
  exact ⟨d, l, ps, e _ _ h1, e _ _ h2, h3, fun i q ws a b => (h4 i q ws a b).same e⟩
theorem RuleIs.same {K : PySem.W.Frag} {H H' : Hp} {r : Addr} {cs : List Cl} (h : RuleIs K H r cs) (e : Same H H') : RuleIs K H' r cs := by
  obtain ⟨d, l, ps, h1, h2, h3, h4⟩ := h
  exact ⟨d, l, ps, e _ _ h1, e _ _ h2, h3, fun i q ws a b => (h4 i q ws a b).same e⟩
theorem okW_take (ws : List (Option Nat)) (ss : List Nat) (h : ws.length = ss.length) (i : Nat) (hi : i < ws.length) : okW (ws.take (i + 1)) (ss.take (i + 1)) = (okW (ws.take i) (ss.take i) && (match ws[i]? with
    | some (some n) => decide (some n = ss[i]?)
    | _ => true)) := by
  induction i generalizing ws ss with
  | zero =>
    match ws, ss, h with
    | [], _, _ => cases hi
    | w :: ws, s :: ss, _ =>
      show okW [w] [s] = (true && _)
      cases w with
      | none => rfl
      | some n =>
        show (decide (n = s) && true) = (true && decide (some n = some s))
        by_cases e : n = s
        · simp [e]
        · simp [e]
  | succ i ih =>
    match ws, ss, h with
    | [], _, _ => cases hi
    | w :: ws, s :: ss, h =>
      have z := ih ws ss (Nat.succ.inj h) (Nat.lt_of_succ_lt_succ hi)
      show okW (w :: ws.take (i + 1)) (s :: ss.take (i + 1)) = (okW (w :: ws.take i) (s :: ss.take i) && _)
      show (_ && okW (ws.take (i + 1)) (ss.take (i + 1))) = ((_ && okW (ws.take i) (ss.take i)) && _)
      rw [z, Bool.and_assoc]
      rfl
section
variable {P : Program} {w : World} {K : PySem.W.Frag} {mg : Str → Option Value} {base : Heap} {S : Q → Prop}
def spHolds (K : PySem.W.Frag) : Sp := fun vs H Qk _ => ∃ (p a : Addr) (ws : List (Option Nat)) (ar : List Nat), vs = [.ref p, .ref a] ∧ PlacesAt K H p ws ∧ H a = some (.lst (ar.map fun n => V.int (n : Nat))) ∧ ws.length = ar.length ∧ ∀ H', Same H H' → Qk (.bl (okW ws ar)) H'
theorem sc_Places_holds : FnScope [("self" : Str), ("around" : Str), ("wish" : Str), ("state" : Str)] ["self", "around"] (defScope s_Places_holds) := ⟨rfl, rfl, rfl, by decide +kernel, rfl, by decide +kernel, by decide +kernel⟩
theorem ok_Places_holds (T : Txt K mg) : Ok P w K mg base ("Places", some "holds") ["self", "around"] 1 (spHolds K) := by
  refine Ok.of T.d_Places_holds sc_Places_holds (fun vs H Q E h => ?_) (fun cdv A outer s H vs Q E hr h => ?_)
  · obtain ⟨p, a, ws, ar, rfl, _⟩ := h
    rfl
  obtain ⟨p, a, ws, ar, rfl, ⟨d, l, hp, hl⟩, ha, hlen, q⟩ := h
  refine ⟨_, (pss_cons (ps_for PassesOwn.never (by rfl) (pi_zip (by rfl) T.f_zip (pa_cons (pe_fld (pv 0) rfl) (pa_cons (pv 1) pa_nil))) (pg_tup (by rfl) (pgs_cons (pg_name (i := 2) sc_Places_holds.nd rfl (Or.inl rfl)) (pgs_cons (pg_name (i := 3) sc_Places_holds.nd rfl (Or.inl rfl)) pgs_nil))) (pss_one (ps_if (PW.pt (pw_and (pt_cmpR op_notN (pv 2) pe_non (nomark _)) (pw_and1 (pt_cmpR op_ne (pv 2) (pv 3) (nomark _))))) (pss_one (ps_ret pe_bl)) pss_nil)))
      (pss_one (ps_ret pe_bl))), ?_⟩
  refine ⟨_, rfl, p, _, d, _, _, rfl, hp, T.c_Places, T.n_Places_wanted, rfl, _, rfl, l, a, _, _, rfl, SqL.of hl, SqL.of ha, ?_⟩
  refine for_it (walk_zip (n := ws.length) (by rw [List.length_map, List.length_map, ← hlen, Nat.min_self])) (fun i σ' H' => ∃ (u v : Option V), σ' = [some (.ref p), some (.ref a), u, v] ∧ Same H H' ∧ okW (ws.take i) (ar.take i) = true) ⟨none, none, rfl, Same.refl H, rfl⟩
    (fun i σ' H' _ ⟨_, _, _, e, _⟩ => ⟨SqL.of (e _ _ hl), SqL.of (e _ _ ha)⟩) ?_ ?_
  · rintro i x σ' H' H'' hi ⟨u, v, rfl, e1, ok⟩ ⟨t, x1, x2, rfl, ht, rfl, h1, h2⟩
    have e2 : Same H (upd H' t (.tup [x1, x2])) := e1.trans (same_new ht _)
    have hi2 : i < ar.length := by rw [← hlen]; exact hi
    have h1 : (ws.map oV)[i]? = some x1 := h1
    have h2 : (ar.map fun n => V.int (n : Nat))[i]? = some x2 := h2
    rw [List.getElem?_map, List.getElem?_eq_getElem hi] at h1
    rw [List.getElem?_map, List.getElem?_eq_getElem hi2] at h2
    obtain rfl : oV ws[i] = x1 := Option.some.inj h1
    obtain rfl : V.int (ar[i] : Nat) = x2 := Option.some.inj h2
    have tk := okW_take ws ar hlen i hi
    rw [List.getElem?_eq_getElem hi, List.getElem?_eq_getElem hi2, ok] at tk
    refine ⟨t, _, rfl, SqT.of upd_same, rfl, _, _, rfl, _, _, rfl, rfl, ?_⟩
    match hw : ws[i], tk, e2 with
    | none, tk, e2 =>
      refine ⟨_, rfl, rfl, _, rfl, iteF (iteF ?_)⟩
      exact ⟨_, _, rfl, e2, tk⟩
    | some n, tk, e2 =>
      refine ⟨_, rfl, rfl, _, rfl, iteT ?_⟩
      refine ⟨_, rfl, _, rfl, rfl, _, rfl, ?_⟩
      by_cases c : n = ar[i]
      · rw [decide_eq_true (show oV (some n) = V.int (ar[i] : Nat) by rw [c]; rfl)]
        refine iteF ⟨_, _, rfl, e2, ?_⟩
        rw [tk, c]
        simp
      · rw [decide_eq_false (show ¬ oV (some n) = V.int (ar[i] : Nat) from fun z => c (by injection z with z; omega))]
        refine iteT ?_
        have bad : okW ws ar = false := by
          refine Classical.byContradiction fun z => ?_
          have z' : okW ws ar = true := by simpa using z
          -- a prefix of what holds holds
          have pre : ∀ (ws : List (Option Nat)) (ar : List Nat) (j : Nat), okW ws ar = true → okW (ws.take j) (ar.take j) = true := by
            intro ws
            induction ws with
            | nil => intro ar j _; rw [List.take_nil]; rfl
            | cons w ws ih =>
              intro ar j h
              cases ar with
              | nil => rw [List.take_nil]; cases j <;> rfl
              | cons s ss =>
                cases j with
                | zero => rfl
                | succ j =>
                  have h' : (_ && okW ws ss) = true := h
                  obtain ⟨a1, a2⟩ := Bool.and_eq_true_iff.mp h'
                  show (_ && okW (ws.take j) (ss.take j)) = true
                  rw [ih ss j a2, Bool.and_true]
                  exact a1
          rw [pre ws ar (i + 1) z'] at tk
          simp [c] at tk
        rw [← bad]
        exact q _ e2
  · rintro σ' H' ⟨u, v, rfl, e1, ok⟩
    rw [List.take_of_length_le (Nat.le_refl _), List.take_of_length_le (by omega)] at ok
    rw [ok] at q
    exact q _ e1
def spFits (K : PySem.W.Frag) : Sp := fun vs H Qk _ => ∃ (p a : Addr) (c : Cl) (cell : Nat) (ar : List Nat), vs = [.ref p, .int (cell : Nat), .ref a] ∧ ClauseAt K H p c ∧ H a = some (.lst (ar.map fun n => V.int (n : Nat))) ∧ (∀ ws ∈ c.wants, ws.length = ar.length) ∧ ∀ H', Same H H' → Qk (.bl (fitsC c cell ar)) H'
theorem sc_Clause_fits : FnScope [("self" : Str), ("cell" : Str), ("around" : Str), ("condition" : Str)] ["self", "cell", "around"] (defScope s_Clause_fits) := ⟨rfl, rfl, rfl, by decide +kernel, rfl, by decide +kernel, by decide +kernel⟩
theorem ok_Clause_fits (T : Txt K mg) : Ok P w K mg base ("Clause", some "fits") ["self", "cell", "around"] 2 (spFits K) := by
  obtain ⟨fd_Places_holds, G_Places_holds, b_Places_holds, k_Places_holds⟩ := ok_Places_holds (P := P) (w := w) (base := base) T
  refine Ok.of T.d_Clause_fits sc_Clause_fits (fun vs H Q E h => ?_) (fun cdv A outer s H vs Q E hr h => ?_)
  · obtain ⟨p, a, c, cell, ar, rfl, _⟩ := h
    rfl
  obtain ⟨p, a, c, cell, ar, rfl, ⟨d, l, ps, hp, hl, hps, hpl⟩, ha, hlen, q⟩ := h
  refine ⟨_, (pss_cons (ps_if (PW.pt (pw_and (pt_cmpR op_notN (pe_fld (pv 0) rfl) pe_non (nomark _)) (pw_and1 (pt_cmpR op_ne (pe_fld (pv 0) rfl) (pv 1) (nomark _))))) (pss_one (ps_ret pe_bl)) pss_nil)
      (pss_cons (ps_for PassesOwn.never (by rfl) (pi_list (pe_fld (pv 0) rfl)) (pg_name (i := 3) sc_Clause_fits.nd rfl (Or.inl rfl)) (pss_one (ps_if (pt_not (pt_val (pe_meth (pv 3) T.c_Places T.m_Places_holds G_Places_holds (hr.mono (by omega)) b_Places_holds .nil pass0 (pa_cons (pv 2) pa_nil)))) (pss_one (ps_ret pe_bl)) pss_nil)))
      (pss_one (ps_ret pe_bl)))), ?_⟩
  -- the test of the state taken
  refine ⟨_, rfl, p, _, d, _, _, rfl, hp, T.c_Clause, T.n_Clause_taken, rfl, rfl, _, rfl, ?_⟩
  have rest : okT c.taken cell = true → (tSeq (tFor (iList K (tFld K (tVar 0) "conditions")) (gName 3) (tIfS (tNot (tB (tMeth (CP K) "holds" (spHolds K) [] E0 (tVar 3) (tCons (tVar 2) tNil)))) (tRet (tC (.bl false))) tNext)) (tRet (tC (.bl true)))) { nx := fun _ H' => Q .non H', rt := Q } [some (.ref p), some (.int (cell : Nat)), some (.ref a), none] H := by
    intro okt
    refine ⟨_, rfl, p, _, d, _, _, rfl, hp, T.c_Clause, T.n_Clause_conditions, rfl, l, rfl, ⟨_, SqL.of hl⟩, ?_⟩
    refine for_it (walk_list (K := K) (a := l) (xs := ps.map V.ref)) (fun i σ' H' => ∃ (u : Option V), σ' = [some (.ref p), some (.int (cell : Nat)), some (.ref a), u] ∧ Same H H' ∧ (c.wants.take i).all (fun w => okW w ar) = true) ⟨none, rfl, Same.refl H, rfl⟩
      (fun i σ' H' _ ⟨_, _, e, _⟩ => SqL.of (e _ _ hl)) ?_ ?_
    · rintro i x σ' H' H'' hi ⟨u, rfl, e1, ok⟩ ⟨rfl, hx⟩
      rw [List.length_map] at hi
      have hi2 : i < c.wants.length := by rw [← hps]; exact hi
      rw [List.getElem?_map, List.getElem?_eq_getElem hi] at hx
      obtain rfl : V.ref ps[i] = x := Option.some.inj hx
      have pa := (hpl i ps[i] c.wants[i] (List.getElem?_eq_getElem hi) (List.getElem?_eq_getElem hi2)).same e1
      obtain ⟨d2, l2, hp2, hl2⟩ := id pa
      refine ⟨_, rfl, ps[i], d2, _, rfl, hp2, by rfl, _, rfl, ps[i], a, c.wants[i], ar, rfl, pa, e1 _ _ ha, hlen _ (List.getElem_mem hi2), fun H2 e2 => ⟨_, rfl, ?_⟩⟩
      cases hk : okW c.wants[i] ar with
      | true =>
        refine iteF ⟨_, rfl, e1.trans e2, ?_⟩
        rw [List.take_succ, List.getElem?_eq_getElem hi2, List.all_append, ok]
        simp [hk]
      | false =>
        refine iteT ?_
        have bad : fitsC c cell ar = false := by
          refine Classical.byContradiction fun z => ?_
          have z' : fitsC c cell ar = true := by simpa using z
          have := List.all_eq_true.mp (Bool.and_eq_true_iff.mp z').2 _ (List.getElem_mem hi2)
          rw [hk] at this
          cases this
        rw [bad] at q
        exact q _ (e1.trans e2)
    · rintro σ' H' ⟨u, rfl, e1, ok⟩
      rw [List.length_map, hps, List.take_of_length_le (Nat.le_refl _)] at ok
      have good : fitsC c cell ar = true := by
        show (okT c.taken cell && _) = true
        rw [okt, ok]; rfl
      rw [good] at q
      exact q _ e1
  match ht : c.taken, rest with
  | none, rest => exact iteF (iteF (rest rfl))
  | some n, rest =>
    refine iteT ?_
    refine ⟨_, rfl, p, _, d, _, _, rfl, hp, T.c_Clause, T.n_Clause_taken, by rw [ht]; rfl, _, rfl, rfl, _, rfl, ?_⟩
    by_cases e : n = cell
    · rw [decide_eq_true (show oV (some n) = V.int (cell : Nat) by rw [e]; rfl)]
      exact iteF (rest (decide_eq_true e))
    · rw [decide_eq_false (show ¬ oV (some n) = V.int (cell : Nat) from fun z => e (by injection z with z; omega))]
      refine iteT ?_
      have bad : fitsC c cell ar = false := by
        show (okT c.taken cell && _) = false
        rw [ht]
        show (decide (n = cell) && _) = false
        rw [decide_eq_false e]; rfl
      rw [bad] at q
      exact q _ (Same.refl H)
end
end Jf
/-! JfR2 -/
set_option autoImplicit true
namespace Jf
open PySem PySem.Spec PyProof.Rows L2
theorem firstFit_at : ∀ {cs : List Cl} {cell : Nat} {ar : List Nat} {i : Nat} {c : Cl}, (∀ j, j < i → ∀ c', cs[j]? = some c' → fitsC c' cell ar = false) → cs[i]? = some c → fitsC c cell ar = true → firstFit cs cell ar = c.made
  | [], _, _, _, _, _, h, _ => by cases h
  | c0 :: r, cell, ar, 0, c, _, h, hf => by
    obtain rfl : c0 = c := Option.some.inj h
    show (if fitsC c0 cell ar = true then _ else _) = _
    rw [if_pos hf]
  | c0 :: r, cell, ar, i + 1, c, hb, h, hf => by
    show (if fitsC c0 cell ar = true then _ else _) = _
    rw [hb 0 (by omega) c0 rfl, if_neg (by decide)]
    exact firstFit_at (fun j hj c' hc' => hb (j + 1) (by omega) c' hc') h hf
theorem firstFit_none : ∀ {cs : List Cl} {cell : Nat} {ar : List Nat}, (∀ (j : Nat) c', cs[j]? = some c' → fitsC c' cell ar = false) → firstFit cs cell ar = cell
  | [], _, _, _ => rfl
  | c0 :: r, cell, ar, hb => by
    show (if fitsC c0 cell ar = true then _ else _) = _
    rw [hb 0 c0 rfl, if_neg (by decide)]
    exact firstFit_none fun j c' hc' => hb (j + 1) c' hc'
section
variable {P : Program} {w : World} {K : PySem.W.Frag} {mg : Str → Option Value} {base : Heap} {S : Q → Prop}
def spDeciding (K : PySem.W.Frag) : Sp := fun vs H Qk _ => ∃ (r a : Addr) (cs : List Cl) (cell : Nat) (ar : List Nat), vs = [.ref r, .int (cell : Nat), .ref a] ∧ RuleIs K H r cs ∧ H a = some (.lst (ar.map fun n => V.int (n : Nat))) ∧ (∀ c ∈ cs, ∀ ws ∈ c.wants, ws.length = ar.length) ∧
  (∀ H' (i : Nat) c, Same H H' → (∀ j, j < i → ∀ c', cs[j]? = some c' → fitsC c' cell ar = false) → cs[i]? = some c → fitsC c cell ar = true → Qk (.int (i : Nat)) H') ∧ (∀ H', Same H H' → (∀ (j : Nat) c', cs[j]? = some c' → fitsC c' cell ar = false) → Qk .non H')
theorem sc_deciding : FnScope [("rule" : Str), ("cell" : Str), ("around" : Str), ("at" : Str), ("clause" : Str)] ["rule", "cell", "around"] (defScope s_deciding) := ⟨rfl, rfl, rfl, by decide +kernel, rfl, by decide +kernel, by decide +kernel⟩
theorem ok_deciding (T : Txt K mg) : Ok P w K mg base ("deciding", none) ["rule", "cell", "around"] 3 (spDeciding K) := by
  obtain ⟨fd_Clause_fits, G_Clause_fits, b_Clause_fits, k_Clause_fits⟩ := ok_Clause_fits (P := P) (w := w) (base := base) T
  refine Ok.of T.d_deciding sc_deciding (fun vs H Q E h => ?_) (fun cdv A outer s H vs Q E hr h => ?_)
  · obtain ⟨r, a, cs, cell, ar, rfl, _⟩ := h
    rfl
  obtain ⟨r, a, cs, cell, ar, rfl, ⟨d, l, ps, hr0, hl, hps, hpl⟩, ha, hlen, q1, q2⟩ := h
  refine ⟨_, (pss_cons (ps_for PassesOwn.never (by rfl) (pi_enum (by rfl) T.f_enumerate (pa_cons (pe_fld (pv 0) rfl) pa_nil)) (pg_tup (by rfl) (pgs_cons (pg_name (i := 3) sc_deciding.nd rfl (Or.inl rfl)) (pgs_cons (pg_name (i := 4) sc_deciding.nd rfl (Or.inl rfl)) pgs_nil))) (pss_one (ps_if (pt_val (pe_meth (pv 4) T.c_Clause T.m_Clause_fits G_Clause_fits (hr.mono (by omega)) b_Clause_fits .nil pass0 (pa_cons (pv 1) (pa_cons (pv 2) pa_nil)))) (pss_one (ps_ret (pv 3))) pss_nil)))
      (pss_one (ps_ret pe_non))), ?_⟩
  refine ⟨_, rfl, r, _, d, _, _, rfl, hr0, T.c_Rule, T.n_Rule_clauses, rfl, l, _, rfl, SqL.of hl, ?_⟩
  refine for_it (walk_enum (K := K) (a := l) (xs := ps.map V.ref)) (fun i σ' H' => ∃ (u v : Option V), σ' = [some (.ref r), some (.int (cell : Nat)), some (.ref a), u, v] ∧ Same H H' ∧ ∀ j, j < i → ∀ c', cs[j]? = some c' → fitsC c' cell ar = false) ⟨none, none, rfl, Same.refl H, fun j hj => by omega⟩
    (fun i σ' H' _ ⟨_, _, _, e, _⟩ => SqL.of (e _ _ hl)) ?_ ?_
  · rintro i x σ' H' H'' hi ⟨u, v, rfl, e1, no⟩ ⟨t, x1, x2, rfl, ht, rfl, h1, h2⟩
    rw [List.length_map] at hi
    have hi2 : i < cs.length := by rw [← hps]; exact hi
    obtain rfl : V.int (i : Nat) = x1 := Option.some.inj h1
    have h2 : (ps.map V.ref)[i]? = some x2 := h2
    rw [List.getElem?_map, List.getElem?_eq_getElem hi] at h2
    obtain rfl : V.ref ps[i] = x2 := Option.some.inj h2
    have e2 : Same H (upd H' t (.tup [.int (i : Nat), .ref ps[i]])) := e1.trans (same_new ht _)
    have ca := (hpl i ps[i] cs[i] (List.getElem?_eq_getElem hi) (List.getElem?_eq_getElem hi2)).same e2
    obtain ⟨d2, l2, ps2, hp2, _⟩ := id ca
    refine ⟨t, _, rfl, SqT.of upd_same, rfl, _, _, rfl, _, _, rfl, rfl, ?_⟩
    refine ⟨_, rfl, ps[i], d2, _, rfl, hp2, by rfl, _, rfl, _, rfl, ps[i], a, cs[i], cell, ar, rfl, ca, e2 _ _ ha, hlen _ (List.getElem_mem hi2), fun H2 e3 => ⟨_, rfl, ?_⟩⟩
    cases hk : fitsC cs[i] cell ar with
    | true => exact iteT ⟨_, rfl, q1 _ i cs[i] (e2.trans e3) no (List.getElem?_eq_getElem hi2) hk⟩
    | false =>
      refine iteF ⟨_, _, rfl, e2.trans e3, fun j hj c' hc' => ?_⟩
      by_cases e : j = i
      · subst e
        rw [List.getElem?_eq_getElem hi2] at hc'
        rw [← Option.some.inj hc']
        exact hk
      · exact no j (by omega) c' hc'
  · rintro σ' H' ⟨u, v, rfl, e1, no⟩
    rw [List.length_map, hps] at no
    exact q2 _ e1 fun j c' hc' => no j (List.getElem?_eq_some_iff.mp hc').1 c' hc'
def spBecomes (K : PySem.W.Frag) : Sp := fun vs H Qk _ => ∃ (r a : Addr) (cs : List Cl) (cell : Nat) (ar : List Nat), vs = [.ref r, .int (cell : Nat), .ref a] ∧ RuleIs K H r cs ∧ H a = some (.lst (ar.map fun n => V.int (n : Nat))) ∧ (∀ c ∈ cs, ∀ ws ∈ c.wants, ws.length = ar.length) ∧
  ∀ H', Same H H' → Qk (.int (firstFit cs cell ar : Nat)) H'
theorem sc_becomes : FnScope [("rule" : Str), ("cell" : Str), ("around" : Str), ("at" : Str)] ["rule", "cell", "around"] (defScope s_becomes) := ⟨rfl, rfl, rfl, by decide +kernel, rfl, by decide +kernel, by decide +kernel⟩
theorem ok_becomes (T : Txt K mg) : Ok P w K mg base ("becomes", none) ["rule", "cell", "around"] 4 (spBecomes K) := by
  obtain ⟨fd_deciding, G_deciding, b_deciding, k_deciding⟩ := ok_deciding (P := P) (w := w) (base := base) T
  refine Ok.of T.d_becomes sc_becomes (fun vs H Q E h => ?_) (fun cdv A outer s H vs Q E hr h => ?_)
  · obtain ⟨r, a, cs, cell, ar, rfl, _⟩ := h
    rfl
  obtain ⟨r, a, cs, cell, ar, rfl, hR, ha, hlen, q⟩ := h
  refine ⟨_, (pss_cons (ps_set (i := 3) sc_becomes.nd rfl (Or.inl rfl) (pe_call G_deciding (hr.mono (by omega)) (by rfl) T.g_deciding k_deciding b_deciding .nil pass0 (pa_cons (pv 0) (pa_cons (pv 1) (pa_cons (pv 2) pa_nil)))))
      (pss_cons (ps_if (pt_cmpR op_isN (pv 3) pe_non (nomark _)) (pss_one (ps_ret (pv 1))) pss_nil)
      (pss_one (ps_ret (pe_fld (pe_ix ix_list (pe_fld (pv 0) rfl) (pv 3) (fun _ _ => rfl)) rfl))))), ?_⟩
  refine ⟨_, rfl, _, rfl, _, rfl, r, a, cs, cell, ar, rfl, hR, ha, hlen, fun H' i c e no hc hf => ?_, fun H' e no => ?_⟩
  · refine ⟨_, rfl, rfl, _, rfl, iteF ?_⟩
    obtain ⟨d, l, ps, hr0, hl, hps, hpl⟩ := hR.same e
    have hi : i < ps.length := by rw [hps]; exact (List.getElem?_eq_some_iff.mp hc).1
    obtain ⟨d2, l2, ps2, hp2, _⟩ := hpl i ps[i] c (List.getElem?_eq_getElem hi) hc
    refine ⟨_, rfl, r, _, d, _, _, rfl, hr0, T.c_Rule, T.n_Rule_clauses, rfl, _, rfl, l, _, _, _, rfl, rfl, SqL.of hl, atI_nat (by rw [List.getElem?_map, List.getElem?_eq_getElem hi]; rfl), ps[i], _, d2, _, _, rfl, hp2, T.c_Clause, T.n_Clause_made, by rfl, ?_⟩
    rw [← firstFit_at no hc hf]
    exact q _ e
  · refine ⟨_, rfl, rfl, _, rfl, iteT ⟨_, rfl, ?_⟩⟩
    rw [firstFit_none no] at q
    exact q _ e
end
end Jf
/-! JfT1 -/
set_option autoImplicit true
/-! A rule's text read: signs, words. -/
namespace Jf
open PySem PySem.Spec PyProof.Rows L2
/-- a digit; a wish's sign; a word of wishes -/
def dig (d : Nat) : Str := ⟨#[48 + d]⟩
def wc : Option Nat → Nat
  | none => 42
  | some d => 48 + d
def wishT (o : Option Nat) : Str := ⟨#[wc o]⟩
def wtext (ws : List (Option Nat)) : Str := ⟨(ws.map wc).toArray⟩
def le7 (o : Option Nat) : Prop := ∀ d, o = some d → d ≤ 7
section
variable {P : Program} {w : World} {K : PySem.W.Frag} {mg : Str → Option Value} {base : Heap}
def spReadState : Sp := fun vs H Qk _ => ∃ d : Nat, vs = [.str (dig d)] ∧ d ≤ 7 ∧ Qk (.int (d : Nat)) H
theorem dig_in : ∀ d : Nat, d ≤ 7 → (!(!(Builtin.Str.occurrences ("01234567" : Str) (dig d) 0 ("01234567" : Str).length 1).isEmpty)) = false := by
  intro d hd
  rcases (show d = 0 ∨ d = 1 ∨ d = 2 ∨ d = 3 ∨ d = 4 ∨ d = 5 ∨ d = 6 ∨ d = 7 by omega) with rfl | rfl | rfl | rfl | rfl | rfl | rfl | rfl <;> decide +kernel
theorem dig_int : ∀ d : Nat, d ≤ 7 → PySem.intText? (dig d) = some (d : Int) := by
  intro d hd
  rcases (show d = 0 ∨ d = 1 ∨ d = 2 ∨ d = 3 ∨ d = 4 ∨ d = 5 ∨ d = 6 ∨ d = 7 by omega) with rfl | rfl | rfl | rfl | rfl | rfl | rfl | rfl <;> decide +kernel
theorem sc_read_state : FnScope [("word" : Str)] ["word"] (defScope s_read_state) := ⟨rfl, rfl, rfl, by decide +kernel, rfl, by decide +kernel, by decide +kernel⟩
theorem ok_read_state (T : Txt K mg) : Ok P w K mg base ("read_state", none) ["word"] 1 spReadState := by
  refine Ok.of T.d_read_state sc_read_state (fun vs H Q E h => ?_) (fun cdv A outer s H vs Q E hr h => ?_)
  · obtain ⟨d, rfl, _⟩ := h
    rfl
  obtain ⟨d, rfl, hd, q⟩ := h
  refine ⟨_, (pss_cons (ps_if (PW.pt (pw_or (pt_cmpR op_ne (pe_callB call_len_str (by rfl) T.f_len (by decide +kernel) (pa_cons (pv 0) pa_nil)) pe_int (nomark _)) (pw_or1 (pt_cmpR op_notin_str (pv 0) (pe_glob (v := .str "01234567") (by rfl) T.i_STATES.choose_spec ⟨_, rfl⟩) (by rfl))))) (pss_one ps_never) pss_nil)
      (pss_one (ps_ret (pe_callTy call_int_str (by rfl) T.f_int (by decide +kernel) (pa_cons (pv 0) pa_nil))))), ?_⟩
  refine ⟨_, rfl, dig d, rfl, by show 1 ≤ sizeLine; decide, rfl, _, rfl, iteF ?_⟩
  refine ⟨_, rfl, dig d, _, rfl, rfl, _, rfl, ?_⟩
  rw [dig_in d hd]
  refine iteF ?_
  exact ⟨_, rfl, dig d, _, rfl, dig_int d hd, by show 1 ≤ 640; decide, q⟩
def spReadWish : Sp := fun vs H Qk _ => ∃ o : Option Nat, vs = [.str (wishT o)] ∧ le7 o ∧ Qk (oV o) H
theorem sc_read_wish : FnScope [("word" : Str)] ["word"] (defScope s_read_wish) := ⟨rfl, rfl, rfl, by decide +kernel, rfl, by decide +kernel, by decide +kernel⟩
theorem ok_read_wish (T : Txt K mg) : Ok P w K mg base ("read_wish", none) ["word"] 2 spReadWish := by
  obtain ⟨fd_read_state, G_read_state, b_read_state, k_read_state⟩ := ok_read_state (P := P) (w := w) (base := base) T
  refine Ok.of T.d_read_wish sc_read_wish (fun vs H Q E h => ?_) (fun cdv A outer s H vs Q E hr h => ?_)
  · obtain ⟨o, rfl, _⟩ := h
    rfl
  obtain ⟨o, rfl, ho, q⟩ := h
  refine ⟨_, (pss_cons (ps_if (pt_cmpR op_eq (pv 0) pe_str (nomark _)) (pss_one (ps_ret pe_non)) pss_nil)
      (pss_one (ps_ret (pe_call G_read_state (hr.mono (by omega)) (by rfl) T.g_read_state k_read_state b_read_state .nil pass0 (pa_cons (pv 0) pa_nil))))), ?_⟩
  refine ⟨_, rfl, rfl, _, rfl, ?_⟩
  match o, ho, q with
  | none, ho, q =>
    rw [decide_eq_true (show V.str (wishT none) = V.str "*" by decide +kernel)]
    exact iteT q
  | some d, ho, q =>
    have hd := ho d rfl
    have ne : ¬ V.str (wishT (some d)) = V.str "*" := by
      intro z
      injection z with z
      have z2 : (wishT (some d)).cps = ("*" : Str).cps := by rw [z]
      have z3 : (#[48 + d] : Array Nat) = #[42] := z2
      injection z3 with z3
      injection z3 with z3
      omega
    rw [decide_eq_false ne]
    exact iteF ⟨_, rfl, d, rfl, hd, q⟩
def spPlacesInit (K : PySem.W.Frag) : Sp := fun vs H Qk _ => ∃ (p l d : Addr), vs = [.ref p, .ref l] ∧ H p = some (.ins (CP K) d []) ∧ Qk .non (upd H p (.ins (CP K) d [("wanted", .ref l)]))
theorem sc_Places_init : FnScope [("self" : Str), ("wanted" : Str)] ["self", "wanted"] (defScope s_Places_init) := ⟨rfl, rfl, rfl, by decide +kernel, rfl, by decide +kernel, by decide +kernel⟩
theorem ok_Places_init (T : Txt K mg) : Ok P w K mg base ("Places", some "__init__") ["self", "wanted"] 1 (spPlacesInit K) := by
  refine Ok.of T.d_Places_init sc_Places_init (fun vs H Q E h => ?_) (fun cdv A outer s H vs Q E hr h => ?_)
  · obtain ⟨p, l, d, rfl, _⟩ := h
    rfl
  obtain ⟨p, l, d, rfl, hp, q⟩ := h
  refine ⟨_, (pss_one (ps_fld (pv 0) (pv 1) rfl)), ?_⟩
  exact ⟨_, rfl, _, rfl, p, _, d, [], rfl, hp, T.c_Places, T.n_Places_wanted, (by show 0 < 1000; decide), q⟩
def spClauseInit (K : PySem.W.Frag) : Sp := fun vs H Qk _ => ∃ (p d : Addr) (t c m : V), vs = [.ref p, t, c, m] ∧ H p = some (.ins (CC K) d []) ∧ Qk .non (upd H p (.ins (CC K) d [("taken", t), ("conditions", c), ("made", m)]))
theorem sc_Clause_init : FnScope [("self" : Str), ("taken" : Str), ("conditions" : Str), ("made" : Str)] ["self", "taken", "conditions", "made"] (defScope s_Clause_init) := ⟨rfl, rfl, rfl, by decide +kernel, rfl, by decide +kernel, by decide +kernel⟩
theorem ok_Clause_init (T : Txt K mg) : Ok P w K mg base ("Clause", some "__init__") ["self", "taken", "conditions", "made"] 1 (spClauseInit K) := by
  refine Ok.of T.d_Clause_init sc_Clause_init (fun vs H Q E h => ?_) (fun cdv A outer s H vs Q E hr h => ?_)
  · obtain ⟨p, d, t, c, m, rfl, _⟩ := h
    rfl
  obtain ⟨p, d, t, c, m, rfl, hp, q⟩ := h
  refine ⟨_, (pss_cons (ps_fld (pv 0) (pv 1) rfl)
      (pss_cons (ps_fld (pv 0) (pv 2) rfl)
      (pss_one (ps_fld (pv 0) (pv 3) rfl)))), ?_⟩
  refine ⟨_, rfl, _, rfl, p, _, d, [], rfl, hp, T.c_Clause, T.n_Clause_taken, (by show 0 < 1000; decide), ?_⟩
  refine ⟨_, rfl, _, rfl, p, _, d, _, rfl, upd_same, T.c_Clause, T.n_Clause_conditions, (by show 1 < 1000; decide), ?_⟩
  refine ⟨_, rfl, _, rfl, p, _, d, _, rfl, upd_same, T.c_Clause, T.n_Clause_made, (by show 2 < 1000; decide), ?_⟩
  rw [upd_upd, upd_upd]
  exact q
def spRuleInit (K : PySem.W.Frag) : Sp := fun vs H Qk _ => ∃ (p l d : Addr), vs = [.ref p, .ref l] ∧ H p = some (.ins (CRu K) d []) ∧ Qk .non (upd H p (.ins (CRu K) d [("clauses", .ref l)]))
theorem sc_Rule_init : FnScope [("self" : Str), ("clauses" : Str)] ["self", "clauses"] (defScope s_Rule_init) := ⟨rfl, rfl, rfl, by decide +kernel, rfl, by decide +kernel, by decide +kernel⟩
theorem ok_Rule_init (T : Txt K mg) : Ok P w K mg base ("Rule", some "__init__") ["self", "clauses"] 1 (spRuleInit K) := by
  refine Ok.of T.d_Rule_init sc_Rule_init (fun vs H Q E h => ?_) (fun cdv A outer s H vs Q E hr h => ?_)
  · obtain ⟨p, l, d, rfl, _⟩ := h
    rfl
  obtain ⟨p, l, d, rfl, hp, q⟩ := h
  refine ⟨_, (pss_one (ps_fld (pv 0) (pv 1) rfl)), ?_⟩
  exact ⟨_, rfl, _, rfl, p, _, d, [], rfl, hp, T.c_Rule, T.n_Rule_clauses, (by show 0 < 1000; decide), q⟩
end
end Jf
/-! JfT2 -/
set_option autoImplicit true
/-! A rule's text read: conditions, clauses, the rule. -/
namespace Jf
open PySem PySem.Spec PyProof.Rows L2
def CondOk (ws : List (Option Nat)) : Prop := ws.length = 8 ∧ ∀ o ∈ ws, le7 o
def ctoks (c : Cl) : List Str := wishT c.taken :: (c.wants.map wtext ++ [dig c.made])
structure ClOk (c : Cl) : Prop where
  t : le7 c.taken
  m : c.made ≤ 7
  l : c.wants.length ≤ 1
  w : ∀ ws ∈ c.wants, CondOk ws
theorem PlacesAt.off {K : PySem.W.Frag} {H : Hp} {p D : Addr} {ws : List (Option Nat)} {ps : List Addr} (h : PlacesAt K H p ws) (hw : ws.length = 8) (hD : H D = some (.lst (ps.map V.ref))) (o : HO) : PlacesAt K (upd H D o) p ws := by
  obtain ⟨d, l, h1, h2⟩ := h
  have n1 : p ≠ D := fun z => by rw [z, hD] at h1; cases h1
  have n2 : l ≠ D := fun z => by
    rw [z, hD] at h2
    injection h2 with h2
    injection h2 with h2
    match ws, hw, ps, h2 with
    | none :: r, _, p :: ps, h2 => injection h2 with a _; cases a
    | some n :: r, _, p :: ps, h2 => injection h2 with a _; cases a
    | o :: r, _, [], h2 => cases h2
  exact ⟨d, l, by rw [upd_ne n1]; exact h1, by rw [upd_ne n2]; exact h2⟩
/-- a clause that stands away from D -/
def ClauseOff (K : PySem.W.Frag) (H : Hp) (p : Addr) (c : Cl) (D : Addr) : Prop := ∃ d l, ∃ ps : List Addr, H p = some (.ins (CC K) d [("taken", oV c.taken), ("conditions", .ref l), ("made", .int (c.made : Nat))]) ∧ H l = some (.lst (ps.map V.ref)) ∧ l ≠ D ∧ ps.length = c.wants.length ∧ ∀ (i : Nat) q ws, ps[i]? = some q → c.wants[i]? = some ws → PlacesAt K H q ws
theorem ClauseOff.at_ {K : PySem.W.Frag} {H : Hp} {p D : Addr} {c : Cl} (h : ClauseOff K H p c D) : ClauseAt K H p c := by
  obtain ⟨d, l, ps, h1, h2, _, h3, h4⟩ := h
  exact ⟨d, l, ps, h1, h2, h3, h4⟩
theorem ClauseOff.same {K : PySem.W.Frag} {H H' : Hp} {p D : Addr} {c : Cl} (h : ClauseOff K H p c D) (e : Same H H') : ClauseOff K H' p c D := by
  obtain ⟨d, l, ps, h1, h2, n, h3, h4⟩ := h
  exact ⟨d, l, ps, e _ _ h1, e _ _ h2, n, h3, fun i q ws a b => (h4 i q ws a b).same e⟩
theorem ClauseOff.off {K : PySem.W.Frag} {H : Hp} {p D : Addr} {c : Cl} {qs : List Addr} (h : ClauseOff K H p c D) (hc : ClOk c) (hD : H D = some (.lst (qs.map V.ref))) (o : HO) : ClauseOff K (upd H D o) p c D := by
  obtain ⟨d, l, ps, h1, h2, n, h3, h4⟩ := h
  have n1 : p ≠ D := fun z => by rw [z, hD] at h1; cases h1
  exact ⟨d, l, ps, by rw [upd_ne n1]; exact h1, by rw [upd_ne n]; exact h2, n, h3, fun i q ws a b => (h4 i q ws a b).off (hc.w ws (List.mem_of_getElem? b)).1 hD o⟩
theorem same_make {H : Hp} {x dx : Addr} (h1 : H x = none) (h2 : H dx = none) (o1 o2 o3 : HO) : Same H (upd (upd (upd H dx o1) x o2) x o3) := fun b o e => by
  rw [upd_ne (ne_of_none e h1), upd_ne (ne_of_none e h1), upd_ne (ne_of_none e h2)]
  exact e
section
variable {P : Program} {w : World} {K : PySem.W.Frag} {mg : Str → Option Value} {base : Heap}
def spReadCond (K : PySem.W.Frag) : Sp := fun vs H Qk _ => ∃ ws : List (Option Nat), vs = [.str (wtext ws)] ∧ CondOk ws ∧ ∀ p H', Same H H' → PlacesAt K H' p ws → Qk (.ref p) H'
theorem sc_read_condition : FnScope [("word" : Str), ("sign" : Str)] ["word"] (defScope s_read_condition) := ⟨rfl, rfl, rfl, by decide +kernel, rfl, by decide +kernel, by decide +kernel⟩
theorem ok_read_condition (T : Txt K mg) : Ok P w K mg base ("read_condition", none) ["word"] 3 (spReadCond K) := by
  obtain ⟨fd_read_wish, G_read_wish, b_read_wish, k_read_wish⟩ := ok_read_wish (P := P) (w := w) (base := base) T
  obtain ⟨fd_Places_init, G_Places_init, b_Places_init, k_Places_init⟩ := ok_Places_init (P := P) (w := w) (base := base) T
  refine Ok.of T.d_read_condition sc_read_condition (fun vs H Q E h => ?_) (fun cdv A outer s H vs Q E hr h => ?_)
  · obtain ⟨ws, rfl, _⟩ := h
    rfl
  obtain ⟨ws, rfl, ⟨h8, hle⟩, q⟩ := h
  have len : (wtext ws).length = 8 := by
    show ((ws.map wc).toArray).size = 8
    simp [h8]
  have sz : (wtext ws).length ≤ sizeLine := by rw [len]; decide
  have hcps : ∀ i (hi : i < ws.length), (wtext ws).cps[i]? = some (wc ws[i]) := fun i hi => by
    show (ws.map wc).toArray[i]? = _
    simp [hi]
  refine ⟨_, (pss_cons (ps_if (PW.pt (pw_and (pt_cmpR op_gt (pe_callB call_len_str (by rfl) T.f_len (by decide +kernel) (pa_cons (pv 0) pa_nil)) pe_int (nomark _)) (pw_and1 (pt_cmpR op_eq (pe_ix ix_str (pv 0) pe_int (fun _ _ => rfl)) pe_str (nomark _))))) (pss_one ps_never) pss_nil)
      (pss_cons (ps_if (pt_cmpR op_ne (pe_callB call_len_str (by rfl) T.f_len (by decide +kernel) (pa_cons (pv 0) pa_nil)) pe_int (nomark _)) (pss_one ps_never) pss_nil)
      (pss_one (ps_ret (pe_make T.k_Places G_Places_init (hr.mono (by omega)) (by rfl) T.g_Places b_Places_init .nil pass0 (pa_cons (pe_lc (own := [("sign", 1)]) (g := gName 1) (te := tCall spReadWish [] E0 (tCons (tVar 1) tNil)) (by rfl) sc_read_condition.nd (pi_str (pv 0)) (blkOk_by (own := [("sign", 1)]) (N := [("word" : Str), ("sign" : Str)]) (sc := defScope s_read_condition) (by decide +kernel)) (fun _ _ _ _ _ => pg_name (i := 1) sc_read_condition.nd rfl (Or.inl rfl)) (fun _ _ _ _ _ => pts_nil) (fun _ _ _ _ _ => (pe_call G_read_wish (hr.mono (by omega)) (by rfl) T.g_read_wish k_read_wish b_read_wish .nil pass0 (pa_cons (pv 1) pa_nil)))) pa_nil)))))), ?_⟩
  refine ⟨_, rfl, wtext ws, rfl, sz, _, _, rfl, rfl, _, rfl, ?_⟩
  rw [len]
  refine iteT ?_
  have h1 : 1 < ws.length := by omega
  refine ⟨_, rfl, wtext ws, 1, wc ws[1], rfl, rfl, sz, ?_, rfl, _, rfl, ?_⟩
  · have := hcps 1 h1
    exact atI_nat (j := 1) (by rw [← this, Array.getElem?_toList])
  have ne : ¬ V.str ⟨#[wc ws[1]]⟩ = V.str "=" := by
    intro z
    injection z with z
    have z2 : (⟨#[wc ws[1]]⟩ : Str).cps = ("=" : Str).cps := by rw [z]
    have z3 : (#[wc ws[1]] : Array Nat) = #[61] := z2
    injection z3 with z3
    injection z3 with z3
    cases ho : ws[1] with
    | none => rw [ho] at z3; exact absurd z3 (by decide)
    | some d =>
      have := hle _ (List.getElem_mem h1) d ho
      rw [ho] at z3
      have z3 : 48 + d = 61 := z3
      omega
  rw [decide_eq_false ne]
  refine iteF ?_
  refine ⟨_, rfl, wtext ws, rfl, sz, rfl, _, rfl, ?_⟩
  rw [len, decide_eq_true (show (V.int ((8 : Nat) : Int)) = V.int 8 from rfl)]
  refine iteF ?_
  refine ⟨_, rfl, wtext ws, rfl, fun D hD => lc_map (walk_str (z := wtext ws)) (fun _ => rfl) (fun n H' => H' = upd H D (.lst ((ws.take n).map oV))) rfl (fun n H' _ _ => True.intro) ?_ ?_⟩
  · rintro n x H2 H3 hn rfl ⟨rfl, c, hc, rfl⟩
    have hn8 : n < ws.length := by
      have : n < (wtext ws).length := hn
      omega
    rw [hcps n hn8] at hc
    obtain rfl := Option.some.inj hc
    refine ⟨_, rfl, ws[n], rfl, hle _ (List.getElem_mem hn8), _, upd_same, ?_, ?_⟩
    · rw [List.length_map, List.length_take]
      exact small1000 (by omega)
    · rw [upd_upd, List.take_succ, List.getElem?_eq_getElem hn8, List.map_append]
      rfl
  · intro H2 e2
    have e8 : ws.take (wtext ws).cps.size = ws := List.take_of_length_le (by
      show ws.length ≤ (wtext ws).length
      omega)
    rw [e8] at e2
    subst e2
    intro x dx hx hdx nx
    have nDx : D ≠ x := ne_of_none upd_same hx
    have nDdx : D ≠ dx := ne_of_none upd_same hdx
    refine ⟨x, D, dx, rfl, upd_same, rfl, ?_⟩
    refine q x _ ((same_new hD _).trans (same_make hx hdx _ _ _)) ⟨dx, D, upd_same, ?_⟩
    rw [upd_ne nDx, upd_ne nDx, upd_ne nDdx, upd_same]
def spReadClause (K : PySem.W.Frag) : Sp := fun vs H Qk _ => ∃ (x : Str) (c : Cl), vs = [.str x] ∧ Txt.split x " " = ctoks c ∧ x.length + 2 ≤ sizeLine ∧ ClOk c ∧
  ∀ (p l d : Addr) (ps : List Addr) H', Same H H' → H l = none → H' p = some (.ins (CC K) d [("taken", oV c.taken), ("conditions", .ref l), ("made", .int (c.made : Nat))]) → H' l = some (.lst (ps.map V.ref)) → ps.length = c.wants.length → (∀ (i : Nat) q ws, ps[i]? = some q → c.wants[i]? = some ws → PlacesAt K H' q ws) → Qk (.ref p) H'
theorem cut_mid (a b : V) (l : List V) (h : l.length ≤ 1) : cutV (a :: (l ++ [b])) (some 1) (some (-1)) = l := by
  match l, h with
  | [], _ => rfl
  | [x], _ => rfl
theorem sc_read_clause : FnScope [("part" : Str), ("words" : Str), ("conditions" : Str), ("word" : Str)] ["part"] (defScope s_read_clause) := ⟨rfl, rfl, rfl, by decide +kernel, rfl, by decide +kernel, by decide +kernel⟩
theorem ok_read_clause (T : Txt K mg) : Ok P w K mg base ("read_clause", none) ["part"] 4 (spReadClause K) := by
  obtain ⟨fd_read_wish, G_read_wish, b_read_wish, k_read_wish⟩ := ok_read_wish (P := P) (w := w) (base := base) T
  obtain ⟨fd_read_condition, G_read_condition, b_read_condition, k_read_condition⟩ := ok_read_condition (P := P) (w := w) (base := base) T
  obtain ⟨fd_read_state, G_read_state, b_read_state, k_read_state⟩ := ok_read_state (P := P) (w := w) (base := base) T
  obtain ⟨fd_Clause_init, G_Clause_init, b_Clause_init, k_Clause_init⟩ := ok_Clause_init (P := P) (w := w) (base := base) T
  refine Ok.of T.d_read_clause sc_read_clause (fun vs H Q E h => ?_) (fun cdv A outer s H vs Q E hr h => ?_)
  · obtain ⟨x, c, rfl, _⟩ := h
    rfl
  obtain ⟨x, c, rfl, hsp, hx, hc, q⟩ := h
  refine ⟨_, (pss_cons (ps_set (i := 1) sc_read_clause.nd rfl (Or.inl rfl) (pe_split (pv 0) pe_str))
      (pss_cons (ps_if (pt_cmpR op_lt (pe_callB call_len_seq (by rfl) T.f_len (by decide +kernel) (pa_cons (pv 1) pa_nil)) pe_int (nomark _)) (pss_one ps_never) pss_nil)
      (pss_cons (ps_setLc (i := 2) (own := [("word", 3)]) (g := gName 3) (te := tCall (spReadCond K) [] E0 (tCons (tVar 3) tNil)) (by rfl) sc_read_clause.nd rfl rfl (sw_true rfl rfl rfl (by decide +kernel)) (pi_list (pe_slice sl_list (pv 1) (po_some pe_int) (po_some (pe_un un_neg pe_int)))) (blkOk_by (own := [("word", 3)]) (N := [("part" : Str), ("words" : Str), ("conditions" : Str), ("word" : Str)]) (sc := defScope s_read_clause) (by decide +kernel)) (fun _ _ _ _ _ => pg_name (i := 3) sc_read_clause.nd rfl (Or.inl rfl)) (fun _ _ _ _ _ => pts_nil) (fun _ _ _ _ _ => (pe_call G_read_condition (hr.mono (by omega)) (by rfl) T.g_read_condition k_read_condition b_read_condition .nil pass0 (pa_cons (pv 3) pa_nil))))
      (pss_one (ps_ret (pe_make T.k_Clause G_Clause_init (hr.mono (by omega)) (by rfl) T.g_Clause b_Clause_init .nil pass0 (pa_cons (pe_call G_read_wish (hr.mono (by omega)) (by rfl) T.g_read_wish k_read_wish b_read_wish .nil pass0 (pa_cons (pe_ix ix_list (pv 1) pe_int (fun _ _ => rfl)) pa_nil)) (pa_cons (pv 2) (pa_cons (pe_call G_read_state (hr.mono (by omega)) (by rfl) T.g_read_state k_read_state b_read_state .nil pass0 (pa_cons (pe_ix ix_list (pv 1) (pe_un un_neg pe_int) (fun _ _ => rfl)) pa_nil)) pa_nil))))))))), ?_⟩
  have etk : (Txt.split x " ").map V.str = V.str (wishT c.taken) :: ((c.wants.map fun ws => V.str (wtext ws)) ++ [V.str (dig c.made)]) := by
    rw [hsp]
    unfold ctoks
    rw [List.map_cons, List.map_append, List.map_map]
    rfl
  refine ⟨_, rfl, ⟨_, rfl⟩, x, " ", rfl, rfl, by decide, hx, fun W hW => ?_⟩
  rw [etk]
  have hWl : upd H W (.lst (V.str (wishT c.taken) :: ((c.wants.map fun ws => V.str (wtext ws)) ++ [V.str (dig c.made)]))) W = some (.lst (V.str (wishT c.taken) :: ((c.wants.map fun ws => V.str (wtext ws)) ++ [V.str (dig c.made)]))) := upd_same
  have s1 := same_new hW (.lst (V.str (wishT c.taken) :: ((c.wants.map fun ws => V.str (wtext ws)) ++ [V.str (dig c.made)])))
  have hlen : (V.str (wishT c.taken) :: ((c.wants.map fun ws => V.str (wtext ws)) ++ [V.str (dig c.made)])).length = c.wants.length + 2 := by
    rw [List.length_cons, List.length_append, List.length_map]; rfl
  refine ⟨_, rfl, W, _, rfl, .inl (SqL.of hWl), _, _, rfl, rfl, _, rfl, ?_⟩
  rw [hlen, decide_eq_false (show ¬ ((c.wants.length + 2 : Nat) : Int) < 2 by omega)]
  refine iteF ?_
  refine ⟨_, rfl, 1, rfl, 1, rfl, -1, rfl, W, _, rfl, SqL.of hWl, fun C hC => ?_⟩
  rw [cut_mid _ _ _ (by rw [List.length_map]; exact hc.l)]
  have nWC : W ≠ C := ne_of_none hWl hC
  have s2 := same_new hC (.lst (c.wants.map fun ws => V.str (wtext ws)))
  refine ⟨C, rfl, ⟨_, SqL.of upd_same⟩, fun D hD => ?_⟩
  have hCl : (upd (upd H W (.lst (V.str (wishT c.taken) :: ((c.wants.map fun ws => V.str (wtext ws)) ++ [V.str (dig c.made)])))) C (.lst (c.wants.map fun ws => V.str (wtext ws)))) C = some (.lst (c.wants.map fun ws => V.str (wtext ws))) := upd_same
  refine lc_map (walk_list (K := K) (a := C) (xs := c.wants.map fun ws => V.str (wtext ws))) (fun _ => rfl) (fun n H' => ∃ ps : List Addr, H' D = some (.lst (ps.map V.ref)) ∧ (∀ b o, (upd (upd H W (.lst (V.str (wishT c.taken) :: ((c.wants.map fun ws => V.str (wtext ws)) ++ [V.str (dig c.made)])))) C (.lst (c.wants.map fun ws => V.str (wtext ws)))) b = some o → H' b = some o) ∧ ps.length = n ∧
      (∀ (i : Nat) q ws, ps[i]? = some q → c.wants[i]? = some ws → PlacesAt K H' q ws))
    ⟨[], upd_same, same_new hD _, rfl, fun i q ws h => by cases h⟩ (fun n H' _ ⟨ps, _, k', _⟩ => SqL.of (k' _ _ hCl)) ?_ ?_
  · rintro n y H1 H2 hn ⟨ps, hD1, keep, el, hps⟩ ⟨rfl, hy⟩
    rw [List.length_map] at hn
    rw [List.getElem?_map, List.getElem?_eq_getElem hn] at hy
    obtain rfl := Option.some.inj hy
    have hwn := hc.w _ (List.getElem_mem hn)
    refine ⟨_, rfl, c.wants[n], rfl, hwn, fun p H3 m3 hp => ?_⟩
    have hD3 := m3 _ _ hD1
    refine ⟨_, hD3, ?_, ps ++ [p], ?_, fun b o e => ?_, by rw [List.length_append, el]; rfl, fun i q ws h1 h2 => ?_⟩
    · rw [List.length_map, el]; exact small1000 (by have := hc.l; omega)
    · rw [upd_same, List.map_append]; rfl
    · rw [upd_ne (ne_of_none e hD)]
      exact m3 _ _ (keep b o e)
    · have hq : PlacesAt K H3 q ws := by
        by_cases hi : i < ps.length
        · rw [List.getElem?_append_left hi] at h1
          exact (hps i q ws h1 h2).same m3
        · have ei : i = ps.length := by
            have := (List.getElem?_eq_some_iff.mp h1).1
            rw [List.length_append, List.length_singleton] at this
            omega
          subst ei
          rw [List.getElem?_append_right (Nat.le_refl _), Nat.sub_self] at h1
          obtain rfl : p = q := Option.some.inj h1
          rw [el, List.getElem?_eq_getElem hn] at h2
          rw [← Option.some.inj h2]
          exact hp
      exact hq.off (hc.w ws (List.mem_of_getElem? h2)).1 hD3 _
  · rintro H1 ⟨ps, hD1, keep, el, hps⟩
    rw [List.length_map] at el
    have hW1 := keep _ _ (s2 _ _ hWl)
    have sH1 : Same H H1 := fun b o e => keep _ _ (s2 _ _ (s1 _ _ e))
    have d0 : H D = none := by
      cases e : H D with
      | none => rfl
      | some o =>
        rw [s2 _ _ (s1 _ _ e)] at hD
        cases hD
    refine ⟨_, rfl, W, _, _, .str (wishT c.taken), rfl, rfl, SqL.of hW1, atI_nat (j := 0) rfl, c.taken, rfl, hc.t, ?_⟩
    refine ⟨_, rfl, _, rfl, 1, rfl, W, _, _, .str (dig c.made), rfl, rfl, SqL.of hW1, ?_, c.made, rfl, hc.m, ?_⟩
    · rw [← List.cons_append]
      exact atI_last _ _
    intro p dx hp hdx nx
    have nDp : D ≠ p := ne_of_none hD1 hp
    have nDdx : D ≠ dx := ne_of_none hD1 hdx
    refine ⟨p, dx, _, _, _, rfl, upd_same, rfl, ?_⟩
    have sm := same_make hp hdx (.own p) (.ins (CC K) dx []) (.ins (CC K) dx [("taken", oV c.taken), ("conditions", .ref D), ("made", .int (c.made : Nat))])
    exact q p D dx ps _ (sH1.trans sm) d0 upd_same (by rw [upd_ne nDp, upd_ne nDp, upd_ne nDdx]; exact hD1) el fun i q ws a b => (hps i q ws a b).same sm
end
end Jf
/-! JfT3 -/
set_option autoImplicit true
/-! read_rule. -/
namespace Jf
open PySem PySem.Spec PyProof.Rows L2
section
variable {P : Program} {w : World} {K : PySem.W.Frag} {mg : Str → Option Value} {base : Heap}
def PartOk (part : Str) (c : Cl) : Prop := Txt.split part " " = ctoks c ∧ part.length + 2 ≤ sizeLine ∧ ClOk c
def spReadRule (K : PySem.W.Frag) : Sp := fun vs H Qk _ => ∃ (x : Str) (parts : List Str) (cs : List Cl), vs = [.str x] ∧ x ≠ "" ∧ x.length + 2 ≤ sizeLine ∧ Txt.split x "; " = parts ∧ parts.length = cs.length ∧ cs.length ≤ 900 ∧
  (∀ (i : Nat) p c, parts[i]? = some p → cs[i]? = some c → PartOk p c) ∧ firstFit cs 0 [0, 0, 0, 0, 0, 0, 0, 0] = 0 ∧ ∀ r H', Same H H' → RuleIs K H' r cs → Qk (.ref r) H'
theorem sc_read_rule : FnScope [("text" : Str), ("clauses" : Str), ("rule" : Str), ("part" : Str)] ["text"] (defScope s_read_rule) := ⟨rfl, rfl, rfl, by decide +kernel, rfl, by decide +kernel, by decide +kernel⟩
theorem ok_read_rule (T : Txt K mg) : Ok P w K mg base ("read_rule", none) ["text"] 5 (spReadRule K) := by
  obtain ⟨fd_read_clause, G_read_clause, b_read_clause, k_read_clause⟩ := ok_read_clause (P := P) (w := w) (base := base) T
  obtain ⟨fd_Rule_init, G_Rule_init, b_Rule_init, k_Rule_init⟩ := ok_Rule_init (P := P) (w := w) (base := base) T
  obtain ⟨fd_becomes, G_becomes, b_becomes, k_becomes⟩ := ok_becomes (P := P) (w := w) (base := base) T
  refine Ok.of T.d_read_rule sc_read_rule (fun vs H Q E h => ?_) (fun cdv A outer s H vs Q E hr h => ?_)
  · obtain ⟨x, parts, cs, rfl, _⟩ := h
    rfl
  obtain ⟨x, parts, cs, rfl, hne, hx, hsp, hpl, h900, hpc, hff, q⟩ := h
  refine ⟨_, (pss_cons (ps_if (pt_not (pt_val (pe_callB call_isi (by rfl) T.f_isinstance (by decide +kernel) (pa_cons (pv 0) (pa_cons (pe_bltn (v := .ty "str") (by rfl) T.f_str (by decide +kernel) rfl) pa_nil))))) (pss_one ps_never) pss_nil)
      (pss_cons (ps_set (i := 1) sc_read_rule.nd rfl (Or.inl rfl) (pe_lst pa_nil))
      (pss_cons (ps_if (pt_cmpR op_ne (pv 0) pe_str (nomark _)) (pss_one (ps_setLc (i := 1) (own := [("part", 3)]) (g := gName 3) (te := tCall (spReadClause K) [] E0 (tCons (tVar 3) tNil)) (by rfl) sc_read_rule.nd rfl rfl (sw_true rfl rfl rfl (by decide +kernel)) (pi_list (pe_split (pv 0) pe_str)) (blkOk_by (own := [("part", 3)]) (N := [("text" : Str), ("clauses" : Str), ("rule" : Str), ("part" : Str)]) (sc := defScope s_read_rule) (by decide +kernel)) (fun _ _ _ _ _ => pg_name (i := 3) sc_read_rule.nd rfl (Or.inl rfl)) (fun _ _ _ _ _ => pts_nil) (fun _ _ _ _ _ => (pe_call G_read_clause (hr.mono (by omega)) (by rfl) T.g_read_clause k_read_clause b_read_clause .nil pass0 (pa_cons (pv 3) pa_nil))))) pss_nil)
      (pss_cons (ps_set (i := 2) sc_read_rule.nd rfl (Or.inl rfl) (pe_make T.k_Rule G_Rule_init (hr.mono (by omega)) (by rfl) T.g_Rule b_Rule_init .nil pass0 (pa_cons (pv 1) pa_nil)))
      (pss_cons (ps_if (pt_cmpR op_ne (pe_call G_becomes (hr.mono (by omega)) (by rfl) T.g_becomes k_becomes b_becomes .nil pass0 (pa_cons (pv 2) (pa_cons pe_int (pa_cons (pe_lst (pa_cons pe_int (pa_cons pe_int (pa_cons pe_int (pa_cons pe_int (pa_cons pe_int (pa_cons pe_int (pa_cons pe_int (pa_cons pe_int pa_nil))))))))) pa_nil)))) pe_int (nomark _)) (pss_one ps_never) pss_nil)
      (pss_one (ps_ret (pv 2)))))))), ?_⟩
  refine ⟨_, rfl, .str x, .ty "str", .type "str", .type "str", true, rfl, .ty _, .base (.str _), kit_ty (by decide +kernel), _, rfl, iteF ?_⟩
  refine ⟨Nat.zero_le _, fun C0 hC0 => ?_⟩
  have s0 := same_new hC0 (.lst [])
  refine ⟨_, rfl, rfl, _, rfl, ?_⟩
  rw [decide_eq_false (show ¬ V.str x = V.str "" from fun z => hne (by injection z))]
  refine iteT ?_
  refine ⟨_, rfl, ⟨_, rfl⟩, x, "; ", rfl, rfl, by decide, hx, fun W hW => ?_⟩
  rw [hsp]
  have s1 := same_new hW (.lst (parts.map V.str))
  refine ⟨W, rfl, ⟨_, SqL.of upd_same⟩, fun D hD => ?_⟩
  have hWl : (upd (upd H C0 (.lst [])) W (.lst (parts.map V.str))) W = some (.lst (parts.map V.str)) := upd_same
  refine lc_map (walk_list (K := K) (a := W) (xs := parts.map V.str)) (fun _ => rfl) (fun n H' => ∃ ps : List Addr, H' D = some (.lst (ps.map V.ref)) ∧ (∀ b o, (upd (upd H C0 (.lst [])) W (.lst (parts.map V.str))) b = some o → H' b = some o) ∧ ps.length = n ∧
      (∀ (i : Nat) p c, ps[i]? = some p → cs[i]? = some c → ClauseOff K H' p c D))
    ⟨[], upd_same, same_new hD _, rfl, fun i q ws h => by cases h⟩ (fun n H' _ ⟨ps, _, k', _⟩ => SqL.of (k' _ _ hWl)) ?_ ?_
  · rintro n y H1 H2 hn ⟨ps, hD1, keep, el, hps⟩ ⟨rfl, hy⟩
    rw [List.length_map] at hn
    have hnc : n < cs.length := by omega
    rw [List.getElem?_map, List.getElem?_eq_getElem hn] at hy
    obtain rfl := Option.some.inj hy
    obtain ⟨k1, k2, k3⟩ := hpc n _ _ (List.getElem?_eq_getElem hn) (List.getElem?_eq_getElem hnc)
    refine ⟨_, rfl, parts[n], cs[n], rfl, k1, k2, k3, fun p l d qs H3 m3 hl hp hl3 eq hq => ?_⟩
    have hD3 := m3 _ _ hD1
    have nl : l ≠ D := fun z => by rw [z, hD1] at hl; cases hl
    refine ⟨_, hD3, ?_, ps ++ [p], ?_, fun b o e => ?_, by rw [List.length_append, el]; rfl, fun i q' c h1 h2 => ?_⟩
    · rw [List.length_map, el]; exact small1000 (by omega)
    · rw [upd_same, List.map_append]; rfl
    · rw [upd_ne (ne_of_none e hD)]
      exact m3 _ _ (keep b o e)
    · by_cases hi : i < ps.length
      · rw [List.getElem?_append_left hi] at h1
        obtain ⟨_, _, k3'⟩ := hpc i _ _ (List.getElem?_eq_getElem (by omega)) h2
        exact ((hps i q' c h1 h2).same m3).off k3' hD3 _
      · have ei : i = ps.length := by
          have := (List.getElem?_eq_some_iff.mp h1).1
          rw [List.length_append, List.length_singleton] at this
          omega
        subst ei
        rw [List.getElem?_append_right (Nat.le_refl _), Nat.sub_self] at h1
        obtain rfl : p = q' := Option.some.inj h1
        rw [el, List.getElem?_eq_getElem hnc] at h2
        obtain rfl := Option.some.inj h2
        have co : ClauseOff K H3 p cs[n] D := ⟨d, l, qs, hp, hl3, nl, eq, hq⟩
        exact co.off k3 hD3 _
  · rintro H1 ⟨ps, hD1, keep, el, hps⟩
    rw [List.length_map] at el
    have sH1 : Same H H1 := fun b o e => keep _ _ (s1 _ _ (s0 _ _ e))
    refine ⟨_, rfl, ?_⟩
    intro r dx hr1 hdx nx
    have nDr : D ≠ r := ne_of_none hD1 hr1
    have nDdx : D ≠ dx := ne_of_none hD1 hdx
    have sm := same_make hr1 hdx (.own r) (.ins (CRu K) dx []) (.ins (CRu K) dx [("clauses", .ref D)])
    refine ⟨r, D, dx, rfl, upd_same, rfl, ?_⟩
    have hRi : RuleIs K (upd (upd (upd H1 dx (.own r)) r (.ins (CRu K) dx [])) r (.ins (CRu K) dx [("clauses", .ref D)])) r cs := ⟨dx, D, ps, upd_same, sm _ _ hD1, by omega, fun i p c a b => ((hps i p c a b).at_).same sm⟩
    refine ⟨_, rfl, (by show 8 ≤ sizeLine; decide), fun Z hZ => ?_⟩
    have sz := same_new hZ (.lst [.int 0, .int 0, .int 0, .int 0, .int 0, .int 0, .int 0, .int 0])
    refine ⟨r, Z, cs, 0, [0, 0, 0, 0, 0, 0, 0, 0], rfl, hRi.same sz, upd_same, fun c hc ws hws => ?_, fun H2 e2 => ?_⟩
    · obtain ⟨i, hi⟩ := List.getElem?_of_mem hc
      have hil := (List.getElem?_eq_some_iff.mp hi).1
      obtain ⟨_, _, k3⟩ := hpc i _ c (List.getElem?_eq_getElem (by omega)) hi
      rw [(k3.w ws hws).1]; rfl
    · rw [hff]
      refine ⟨rfl, _, rfl, ?_⟩
      rw [decide_eq_true (show V.int ((0 : Nat) : Int) = V.int 0 from rfl)]
      refine iteF ⟨_, rfl, ?_⟩
      exact q r H2 (sH1.trans (sm.trans (sz.trans e2))) ((hRi.same sz).same e2)
end
end Jf
/-! JfL1 -/
set_option autoImplicit true
/-! The law's own small defs. -/
namespace Jf
open PySem PySem.Spec PyProof.Rows L2
def sAt (ns : List Int) (k : Nat) : Int := ns.getD k 0
section
variable {P : Program} {w : World} {K : PySem.W.Frag} {mg : Str → Option Value} {base : Heap}
theorem sql_same {H H' : Hp} {a : Addr} {xs : List V} (h : SqL K H a xs) (e : Same H H') : SqL K H' a xs := by
  rcases h with (h | ⟨o, h⟩) | h
  · exact .inl (.inl (e _ _ h))
  · exact .inl (.inr ⟨o, e _ _ h⟩)
  · exact .inr h
def spLawAt (K : PySem.W.Frag) : Sp := fun vs H Qk _ => ∃ (a : Addr) (ns : List Int) (k : Nat), vs = [.ref a, .int (k : Nat)] ∧ SqL K H a (ns.map V.int) ∧ Qk (.int (sAt ns k)) H
theorem sc_law_at : FnScope [("_law_script" : Str), ("_law_k" : Str)] ["_law_script", "_law_k"] (defScope s_law_at) := ⟨rfl, rfl, rfl, by decide +kernel, rfl, by decide +kernel, by decide +kernel⟩
theorem ok_law_at (T : Txt K mg) : Ok P w K mg base ("_law_at", none) ["_law_script", "_law_k"] 1 (spLawAt K) := by
  refine Ok.of T.d_law_at sc_law_at (fun vs H Q E h => ?_) (fun cdv A outer s H vs Q E hr h => ?_)
  · obtain ⟨a, ns, k, rfl, _⟩ := h
    rfl
  obtain ⟨a, ns, k, rfl, hS, q⟩ := h
  refine ⟨_, (pss_cons (ps_if (pt_cmpR op_lt (pv 1) (pe_callB call_len_seq (by rfl) T.f_len (by decide +kernel) (pa_cons (pv 0) pa_nil)) (nomark _)) (pss_one (ps_ret (pe_ix ix_list (pv 0) (pv 1) (fun _ _ => rfl)))) pss_nil)
      (pss_one (ps_ret pe_int))), ?_⟩
  by_cases hk : k < ns.length
  · refine ⟨_, rfl, _, rfl, a, _, rfl, .inl hS, _, _, rfl, rfl, _, rfl, ?_⟩
    rw [decide_eq_true (show ((k : Nat) : Int) < ((ns.map V.int).length : Nat) by rw [List.length_map]; omega)]
    refine iteT ?_
    refine ⟨_, rfl, _, rfl, a, _, _, _, rfl, rfl, hS, atI_nat ?_, q⟩
    rw [List.getElem?_map, List.getElem?_eq_getElem hk]
    show some (V.int ns[k]) = some (V.int (ns.getD k 0))
    rw [List.getD_eq_getElem?_getD, List.getElem?_eq_getElem hk]
    rfl
  · refine ⟨_, rfl, _, rfl, a, _, rfl, .inl hS, _, _, rfl, rfl, _, rfl, ?_⟩
    rw [decide_eq_false (show ¬ ((k : Nat) : Int) < ((ns.map V.int).length : Nat) by rw [List.length_map]; omega)]
    refine iteF ?_
    have e : sAt ns k = 0 := by
      show ns.getD k 0 = 0
      rw [List.getD_eq_getElem?_getD, List.getElem?_eq_none (by omega)]
      rfl
    rw [e] at q
    exact q
def mOf (ns : List Int) (s : Nat) : Nat := if s = 0 then 0 else (((s : Int) + sAt ns (s - 1)) % 8).toNat
def fl8 (f : Nat → Nat) : List V := (List.range 8).map fun s => V.int ((f s : Nat) : Int)
def spMapBy (K : PySem.W.Frag) : Sp := fun vs H Qk _ => ∃ (a : Addr) (ns : List Int), vs = [.ref a, .int 0] ∧ SqL K H a (ns.map V.int) ∧ ∀ p H', Same H H' → H' p = some (.lst (fl8 (mOf ns))) → Qk (.ref p) H'
theorem sc_law_map_by : FnScope [("_law_script" : Str), ("_law_first" : Str), ("_law_state" : Str)] ["_law_script", "_law_first"] (defScope s_law_map_by) := ⟨rfl, rfl, rfl, by decide +kernel, rfl, by decide +kernel, by decide +kernel⟩
theorem ok_law_map_by (T : Txt K mg) : Ok P w K mg base ("_law_map_by", none) ["_law_script", "_law_first"] 2 (spMapBy K) := by
  obtain ⟨fd_law_at, G_law_at, b_law_at, k_law_at⟩ := ok_law_at (P := P) (w := w) (base := base) T
  refine Ok.of T.d_law_map_by sc_law_map_by (fun vs H Q E h => ?_) (fun cdv A outer s H vs Q E hr h => ?_)
  · obtain ⟨a, ns, rfl, _⟩ := h
    rfl
  obtain ⟨a, ns, rfl, hS, q⟩ := h
  refine ⟨_, (pss_one (ps_ret (pe_op op_cat (pe_lst (pa_cons pe_int pa_nil)) (pe_lc (own := [("_law_state", 2)]) (g := gName 2) (te := tOp (rI (fun _ j => 0 < j) fun i j => V.int (i % j)) (tOp (rI0 fun i j => V.int (i + j)) (tVar 2) (tCall (spLawAt K) [] E0 (tCons (tVar 0) (tCons (tOp (rI0 fun i j => V.int (i - j)) (tOp (rI0 fun i j => V.int (i + j)) (tVar 1) (tVar 2)) (tC (.int 1))) tNil)))) (tC (.int 8))) (by rfl) sc_law_map_by.nd (pi_range2 (by rfl) T.f_range (pa_cons pe_int (pa_cons pe_int pa_nil))) (blkOk_by (own := [("_law_state", 2)]) (N := [("_law_script" : Str), ("_law_first" : Str), ("_law_state" : Str)]) (sc := defScope s_law_map_by) (by decide +kernel)) (fun _ _ _ _ _ => pg_name (i := 2) sc_law_map_by.nd rfl (Or.inl rfl)) (fun _ _ _ _ _ => pts_nil) (fun _ _ _ _ _ => (pe_op op_mod (pe_op op_add (pv 2) (pe_call G_law_at (hr.mono (by omega)) (by rfl) T.g_law_at k_law_at b_law_at .nil pass0 (pa_cons (pv 0) (pa_cons (pe_op op_sub (pe_op op_add (pv 1) (pv 2)) pe_int) pa_nil)))) pe_int)))))), ?_⟩
  refine ⟨by decide, fun C0 hC0 => ?_⟩
  refine ⟨1, 8, rfl, by decide, fun D hD => ?_⟩
  have nDC : D ≠ C0 := fun z => by rw [z, upd_same] at hD; cases hD
  have s2 : Same H (upd H C0 (.lst [V.int 0])) := same_new hC0 _
  have s3 : ∀ l, Same H (upd (upd H C0 (.lst [V.int 0])) D (.lst l)) := fun l => s2.trans (same_new hD _)
  refine lc_map (walk_range (lo := 1) (n := 7)) (fun _ => rfl) (fun n H' => H' = upd (upd H C0 (.lst [V.int 0])) D (.lst ((List.range n).map fun i => V.int (mOf ns (i + 1) : Nat)))) rfl (fun _ _ _ _ => True.intro) ?_ ?_
  · rintro n x H1 H2 hn rfl ⟨rfl, rfl⟩
    refine ⟨_, rfl, _, rfl, _, rfl, _, rfl, _, _, rfl, rfl, _, _, rfl, rfl, a, ns, n, ?_, sql_same hS (s3 _), ?_⟩
    · show [V.ref a, V.int ((0 : Int) + (1 + (n : Nat)) - 1)] = [V.ref a, V.int (n : Nat)]
      rw [show (0 : Int) + (1 + (n : Nat)) - 1 = (n : Nat) by omega]
    refine ⟨_, _, rfl, rfl, _, _, rfl, rfl, (by show (0 : Int) < 8; decide), _, upd_same, ?_, ?_⟩
    · rw [List.length_map, List.length_range]
      exact small1000 (by omega)
    · rw [upd_upd, List.range_succ, List.map_append]
      have e : (mOf ns (n + 1) : Int) = (1 + (n : Int) + sAt ns n) % 8 := by
        show (((if n + 1 = 0 then 0 else ((((n + 1 : Nat) : Int) + sAt ns (n + 1 - 1)) % 8).toNat) : Nat) : Int) = _
        rw [if_neg (by omega), Nat.add_sub_cancel, Int.toNat_of_nonneg (by omega)]
        rw [show ((n + 1 : Nat) : Int) = 1 + (n : Int) by omega]
      show upd _ D (.lst (_ ++ [V.int ((1 + (n : Int) + sAt ns n) % 8)])) = upd _ D (.lst (_ ++ [V.int (mOf ns (n + 1) : Nat)]))
      rw [e]
  · rintro H1 rfl
    refine ⟨C0, D, [V.int 0], _, rfl, rfl, (by rw [upd_ne nDC.symm, upd_same]), upd_same, (by rw [List.length_map, List.length_range]; decide), fun p hp => q p _ ((s3 _).trans (same_new hp _)) ?_⟩
    rw [upd_same]
    rfl
def baseOf (c : Int) : Int := if c % 4 = 1 then c / 4 % 2 ^ 39 - 2 ^ 38 else c / 4 % 12 - 8
def spBase : Sp := fun vs H Qk _ => ∃ c : Int, vs = [.int c] ∧ Qk (.int (baseOf c)) H
theorem sc_law_base : FnScope [("_law_cell" : Str)] ["_law_cell"] (defScope s_law_base) := ⟨rfl, rfl, rfl, by decide +kernel, rfl, by decide +kernel, by decide +kernel⟩
theorem ok_law_base (T : Txt K mg) : Ok P w K mg base ("_law_base", none) ["_law_cell"] 1 spBase := by
  refine Ok.of T.d_law_base sc_law_base (fun vs H Q E h => ?_) (fun cdv A outer s H vs Q E hr h => ?_)
  · obtain ⟨c, rfl, _⟩ := h
    rfl
  obtain ⟨c, rfl, q⟩ := h
  refine ⟨_, (pss_cons (ps_if (pt_cmpR op_eq (pe_op op_mod (pv 0) pe_int) pe_int (nomark _)) (pss_one (ps_ret (pe_op op_sub (pe_op op_mod (pe_op op_fdiv (pv 0) pe_int) (pe_op op_pow pe_int pe_int)) (pe_op op_pow pe_int pe_int)))) pss_nil)
      (pss_one (ps_ret (pe_op op_sub (pe_op op_mod (pe_op op_fdiv (pv 0) pe_int) pe_int) pe_int)))), ?_⟩
  refine ⟨_, rfl, _, _, rfl, rfl, (by show (0 : Int) < 4; decide), rfl, _, rfl, ?_⟩
  unfold baseOf at q
  by_cases h : c % 4 = 1
  · rw [decide_eq_true (show V.int (c % 4) = V.int 1 by rw [h])]
    rw [if_pos h] at q
    refine iteT ?_
    exact ⟨_, rfl, _, _, rfl, rfl, ⟨by decide, by decide⟩, _, _, rfl, rfl, ⟨by decide, by decide, by decide⟩, _, _, rfl, rfl, (by show (0 : Int) < 2 ^ 39; decide), _, _, rfl, rfl, ⟨by decide, by decide, by decide⟩, _, _, rfl, rfl, q⟩
  · rw [decide_eq_false (show ¬ V.int (c % 4) = V.int 1 from fun z => h (by injection z))]
    rw [if_neg h] at q
    refine iteF ?_
    exact ⟨_, rfl, _, _, rfl, rfl, ⟨by decide, by decide⟩, _, _, rfl, rfl, (by show (0 : Int) < 12; decide), _, _, rfl, rfl, q⟩
def offX : Nat → Int
  | 0 => -1 | 1 => 0 | 2 => 1 | 3 => -1 | 4 => 1 | 5 => -1 | 6 => 0 | 7 => 1 | _ => 0
def offY : Nat → Int
  | 0 => -1 | 1 => -1 | 2 => -1 | 3 => 0 | 4 => 0 | 5 => 1 | 6 => 1 | 7 => 1 | _ => 0
def spOff : Sp := fun vs H Qk _ => ∃ y : Nat, vs = [.int (y : Nat)] ∧ y < 9 ∧ ∀ p H', Same H H' → H' p = some (.tup [.int (offX y), .int (offY y)]) → Qk (.ref p) H'
theorem sc_law_offset : FnScope [("_law_way" : Str), ("_law_some" : Str)] ["_law_way"] (defScope s_law_offset) := ⟨rfl, rfl, rfl, by decide +kernel, rfl, by decide +kernel, by decide +kernel⟩
theorem ok_law_offset (T : Txt K mg) : Ok P w K mg base ("_law_offset", none) ["_law_way"] 1 spOff := by
  refine Ok.of T.d_law_offset sc_law_offset (fun vs H Q E h => ?_) (fun cdv A outer s H vs Q E hr h => ?_)
  · obtain ⟨y, rfl, _⟩ := h
    rfl
  obtain ⟨y, rfl, hy, q⟩ := h
  refine ⟨_, (pss_cons (ps_set (i := 1) sc_law_offset.nd rfl (Or.inl rfl) (pe_lst (pa_cons (pe_tup (pa_cons (pe_un un_neg pe_int) (pa_cons (pe_un un_neg pe_int) pa_nil))) (pa_cons (pe_tup (pa_cons pe_int (pa_cons (pe_un un_neg pe_int) pa_nil))) (pa_cons (pe_tup (pa_cons pe_int (pa_cons (pe_un un_neg pe_int) pa_nil))) (pa_cons (pe_tup (pa_cons (pe_un un_neg pe_int) (pa_cons pe_int pa_nil))) (pa_cons (pe_tup (pa_cons pe_int (pa_cons pe_int pa_nil))) (pa_cons (pe_tup (pa_cons (pe_un un_neg pe_int) (pa_cons pe_int pa_nil))) (pa_cons (pe_tup (pa_cons pe_int (pa_cons pe_int pa_nil))) (pa_cons (pe_tup (pa_cons pe_int (pa_cons pe_int pa_nil))) (pa_cons (pe_tup (pa_cons pe_int (pa_cons pe_int pa_nil))) pa_nil)))))))))))
      (pss_one (ps_ret (pe_ix ix_list (pv 1) (pv 0) (fun _ _ => rfl))))), ?_⟩
  refine ⟨_, rfl, _, rfl, (by decide), fun u0 h0 => ?_⟩
  refine ⟨_, rfl, (by decide), fun u1 h1 => ?_⟩
  refine ⟨_, rfl, (by decide), fun u2 h2 => ?_⟩
  refine ⟨_, rfl, (by decide), fun u3 h3 => ?_⟩
  refine ⟨(by decide), fun u4 h4 => ?_⟩
  refine ⟨_, rfl, (by decide), fun u5 h5 => ?_⟩
  refine ⟨(by decide), fun u6 h6 => ?_⟩
  refine ⟨(by decide), fun u7 h7 => ?_⟩
  refine ⟨(by decide), fun u8 h8 => ?_⟩
  refine ⟨(by show 9 ≤ sizeLine; decide), fun D hD => ?_⟩
  have s0 := same_new h0 (.tup [.int (-1), .int (-1)])
  have s1 := same_new h1 (.tup [.int (0), .int (-1)])
  have s2 := same_new h2 (.tup [.int (1), .int (-1)])
  have s3 := same_new h3 (.tup [.int (-1), .int (0)])
  have s4 := same_new h4 (.tup [.int (1), .int (0)])
  have s5 := same_new h5 (.tup [.int (-1), .int (1)])
  have s6 := same_new h6 (.tup [.int (0), .int (1)])
  have s7 := same_new h7 (.tup [.int (1), .int (1)])
  have s8 := same_new h8 (.tup [.int (0), .int (0)])
  have s9 := same_new hD (.lst ([.ref u0, .ref u1, .ref u2, .ref u3, .ref u4, .ref u5, .ref u6, .ref u7, .ref u8] : List V))
  refine ⟨_, rfl, _, rfl, D, _, _, _, rfl, rfl, SqL.of upd_same, atI_nat (v := .ref ([u0, u1, u2, u3, u4, u5, u6, u7, u8].getD y u0)) ?_, ?_⟩
  · rcases (show y = 0 ∨ y = 1 ∨ y = 2 ∨ y = 3 ∨ y = 4 ∨ y = 5 ∨ y = 6 ∨ y = 7 ∨ y = 8 by omega) with rfl | rfl | rfl | rfl | rfl | rfl | rfl | rfl | rfl <;> rfl
  refine q _ _ (((((((((s0.trans s1).trans s2).trans s3).trans s4).trans s5).trans s6).trans s7).trans s8).trans s9) ?_
  rcases (show y = 0 ∨ y = 1 ∨ y = 2 ∨ y = 3 ∨ y = 4 ∨ y = 5 ∨ y = 6 ∨ y = 7 ∨ y = 8 by omega) with rfl | rfl | rfl | rfl | rfl | rfl | rfl | rfl | rfl
  · exact ((((((((s1.trans s2).trans s3).trans s4).trans s5).trans s6).trans s7).trans s8).trans s9) _ _ upd_same
  · exact (((((((s2.trans s3).trans s4).trans s5).trans s6).trans s7).trans s8).trans s9) _ _ upd_same
  · exact ((((((s3.trans s4).trans s5).trans s6).trans s7).trans s8).trans s9) _ _ upd_same
  · exact (((((s4.trans s5).trans s6).trans s7).trans s8).trans s9) _ _ upd_same
  · exact ((((s5.trans s6).trans s7).trans s8).trans s9) _ _ upd_same
  · exact (((s6.trans s7).trans s8).trans s9) _ _ upd_same
  · exact ((s7.trans s8).trans s9) _ _ upd_same
  · exact (s8.trans s9) _ _ upd_same
  · exact s9 _ _ upd_same
end
end Jf
/-! JfN -/
set_option autoImplicit true
/-! A dict whose keys are (number, (number, number, number, number)). -/
namespace Jf
open PySem PySem.Spec PyProof.Rows L2
abbrev NK := NestedKey
def nkey (sq : Int) (b : Bx) : NK := .tup [.num sq, .tup [.num b.1, .num b.2.1, .num b.2.2.1, .num b.2.2.2]]
theorem nkey_inj {sq sq' : Int} {b b' : Bx} (h : nkey sq b = nkey sq' b') : sq = sq' ∧ b = b' := by
  unfold nkey at h
  injection h with h
  injection h with h1 h
  injection h1 with h1
  injection h with h2 _
  injection h2 with h2
  injection h2 with a h2
  injection h2 with b1 h2
  injection h2 with c h2
  injection h2 with d _
  injection a with a
  injection b1 with b1
  injection c with c
  injection d with d
  obtain ⟨x, y, z, t⟩ := b
  obtain ⟨x', y', z', t'⟩ := b'
  exact ⟨h1, by simp only at a b1 c d; rw [a, b1, c, d]⟩
/-- a key as a tuple -/
def KeyAt (H : Hp) (kt : Addr) (sq : Int) (b : Bx) : Prop := ∃ pt, H kt = some (.tup [.int sq, .ref pt]) ∧ H pt = some (.tup [.int b.1, .int b.2.1, .int b.2.2.1, .int b.2.2.2])
theorem KeyAt.same {H H' : Hp} {kt : Addr} {sq : Int} {b : Bx} (h : KeyAt H kt sq b) (e : ∀ c xs, H c = some (.tup xs) → H' c = some (.tup xs)) : KeyAt H' kt sq b := by
  obtain ⟨pt, h1, h2⟩ := h
  exact ⟨pt, e _ _ h1, e _ _ h2⟩
section
variable {P : Program} {w : World}
theorem KeyAt.is {H : Hp} {h : Heap} {kt : Addr} {sq : Int} {b : Bx} (k : KeyAt H kt sq b) (ok : HOk P w H h) : (nestedKind P w).is h (nkey sq b) kt := by
  obtain ⟨pt, h1, h2⟩ := k
  obtain ⟨_, its, r, o, e1, e2, n, e3⟩ := (show ObjOk P w H h kt (.tup [.int sq, .ref pt]) from ok kt _ h1)
  obtain ⟨_, its', r', o', e1', e2', n', e3'⟩ := (show ObjOk P w H h pt (.tup [.int b.1, .int b.2.1, .int b.2.2.1, .int b.2.2.2]) from ok pt _ h2)
  refine ⟨?_, by simp [nkey, NestedKey.depth, NestedKey.depthAll]⟩
  cases r with
  | cons r0 r =>
    cases r with
    | cons r1 r =>
      cases r
      obtain ⟨t, rfl⟩ := r0
      obtain rfl := (show _ = Value.ref pt from r1)
      refine .tup e1 e2 e3 (.cons (.int _ _) (.cons ?_ .nil))
      cases r' with
      | cons a0 r' =>
        cases r' with
        | cons a1 r' =>
          cases r' with
          | cons a2 r' =>
            cases r' with
            | cons a3 r' =>
              cases r'
              obtain ⟨t0, rfl⟩ := a0
              obtain ⟨t1, rfl⟩ := a1
              obtain ⟨t2, rfl⟩ := a2
              obtain ⟨t3, rfl⟩ := a3
              exact .tup e1' e2' e3' (.cons (.int _ _) (.cons (.int _ _) (.cons (.int _ _) (.cons (.int _ _) .nil))))
/-- the dict's own object -/
def NDO (P : Program) (w : World) (d : Addr) (xs : List (NK × Addr × Value)) : HO := .ext fun h => ∃ o es ep, h.get? d = some o ∧ o.ExactDict ∧ o.data = .dict es ep ∧ es.toList = xs.map (entryOfKey (nestedKind P w))
structure NDict (P : Program) (w : World) (H : Hp) (d : Addr) (xs : List (NK × Addr × Value)) : Prop where
  at_ : H d = some (NDO P w d xs)
  sz : xs.length ≤ sizeLine
  ns : (d == sysModules) = false
  nd : (xs.map (·.1)).Nodup
  ky : ∀ x ∈ xs, ∃ sq b, x.1 = nkey sq b ∧ KeyAt H x.2.1 sq b
theorem NDict.held {H : Hp} {h : Heap} {d : Addr} {xs : List (NK × Addr × Value)} (D : NDict P w H d xs) (ok : HOk P w H h) : h.DictOfH (nestedKind P w) d xs := by
  obtain ⟨⟨o, es, ep, h1, h2, h3, h4⟩, _⟩ := (show ObjOk P w H h d (NDO P w d xs) from ok d _ D.at_)
  exact ⟨o, es, ep, h1, h2, h3, h4, fun x hx => by
    obtain ⟨sq, b, e, k⟩ := D.ky x hx
    rw [e]
    exact k.is ok, D.nd⟩
theorem NDict.same {H H' : Hp} {d : Addr} {xs : List (NK × Addr × Value)} (D : NDict P w H d xs) (hd : H' d = H d) (e : ∀ c xs, H c = some (.tup xs) → H' c = some (.tup xs)) : NDict P w H' d xs :=
  ⟨by rw [hd]; exact D.at_, D.sz, D.ns, D.nd, fun x hx => by
    obtain ⟨sq, b, e1, k⟩ := D.ky x hx
    exact ⟨sq, b, e1, k.same e⟩⟩
theorem ndo_ok {H : Hp} {h : Heap} {d : Addr} {xs : List (NK × Addr × Value)} (D : h.DictOfH (nestedKind P w) d xs) : ObjOk P w H h d (NDO P w d xs) := by
  obtain ⟨o, es, ep, h1, h2, h3, h4, _, _⟩ := D
  exact ⟨⟨o, es, ep, h1, h2, h3, h4⟩, ⟨o, h1⟩, fun a b ⟨o', es', ep', z1, z2⟩ k => ⟨o', es', ep', k _ z1, z2⟩⟩
theorem ndict_put {H : Hp} {d kt : Addr} {xs : List (NK × Addr × Value)} {sq : Int} {b : Bx} {u : Value} (D : NDict P w H d xs) (k : KeyAt H kt sq b) (hl : xs.length < sizeLine) : NDict P w (upd H d (NDO P w d (storedH xs (nkey sq b) kt u))) d (storedH xs (nkey sq b) kt u) := by
  have tp : ∀ c ys, H c = some (.tup ys) → upd H d (NDO P w d (storedH xs (nkey sq b) kt u)) c = some (.tup ys) := fun c ys e => by
    rw [upd_ne (fun z => by rw [z, D.at_] at e; cases e)]; exact e
  have ek : (storedH xs (nkey sq b) kt u).map (·.1) = if (atKey xs (nkey sq b)).isSome = true then xs.map (·.1) else xs.map (·.1) ++ [nkey sq b] := by
    unfold storedH
    split
    · rw [List.map_map]
      refine List.map_congr_left fun x _ => ?_
      show (putAt (nkey sq b) u x).1 = x.1
      unfold putAt
      split <;> rfl
    · rw [List.map_append]; rfl
  have an : ∀ {ys : List (NK × Addr × Value)} {k : NK}, ¬ (atKey ys k).isSome = true → k ∉ ys.map (·.1) := fun {ys k} h m => by
    obtain ⟨x, hx, e⟩ := List.mem_map.mp m
    refine h ?_
    unfold atKey
    rw [Option.isSome_map, List.find?_isSome]
    exact ⟨x, hx, by simpa using e⟩
  refine ⟨upd_same, ?_, D.ns, ?_, fun x hx => ?_⟩
  · have : (storedH xs (nkey sq b) kt u).length = ((storedH xs (nkey sq b) kt u).map (·.1)).length := (List.length_map _).symm
    rw [this, ek]
    split
    · rw [List.length_map]; exact D.sz
    · rw [List.length_append, List.length_map]; exact hl
  · rw [ek]
    split
    · exact D.nd
    · rename_i hn
      exact nd_snoc D.nd (an hn)
  · unfold storedH at hx
    split at hx
    · obtain ⟨y, hy, rfl⟩ := List.mem_map.mp hx
      obtain ⟨sq', b', e1, k'⟩ := D.ky y hy
      unfold putAt
      split
      · exact ⟨sq', b', e1, k'.same tp⟩
      · exact ⟨sq', b', e1, k'.same tp⟩
    · rcases List.mem_append.mp hx with hx | hx
      · obtain ⟨sq', b', e1, k'⟩ := D.ky x hx
        exact ⟨sq', b', e1, k'.same tp⟩
      · rw [List.mem_singleton.mp hx]
        exact ⟨sq, b, rfl, k.same tp⟩
end
section
variable {X : Cx} {o i e value : Expr} {pos pos' tpos : Pos} {td ty tv : TE}
theorem nroom {A : Around} (hu : A.units + 64 < cLine) {P : Program} {w : World} : (nestedKind P w).room A.in1 := by
  show A.units + 1 + 8 < cLine
  omega
def tNDGet (P : Program) (w : World) (td ty : TE) : TE := fun σ H Q => td σ H fun x H1 => ty σ H1 fun y H2 => ∃ (d kt : Addr) (xs : List (NK × Addr × Value)) (sq : Int) (b : Bx) (p : Addr × Value) (v : V), x = .ref d ∧ y = .ref kt ∧ NDict P w H2 d xs ∧ KeyAt H2 kt sq b ∧ atKey xs (nkey sq b) = some p ∧ RelV v p.2 ∧ Q v H2
def tNDNot (P : Program) (w : World) (ty td : TE) : TE := fun σ H Q => ty σ H fun y H1 => td σ H1 fun x H2 => ∃ (d kt : Addr) (xs : List (NK × Addr × Value)) (sq : Int) (b : Bx), x = .ref d ∧ y = .ref kt ∧ NDict P w H2 d xs ∧ KeyAt H2 kt sq b ∧ Q (.bl (!(atKey xs (nkey sq b)).isSome)) H2
def sNDPut (P : Program) (w : World) (td ty tv : TE) : TS := fun D σ H => tv σ H fun v H1 => td σ H1 fun x H2 => ty σ H2 fun y H3 => ∃ (d kt : Addr) (xs : List (NK × Addr × Value)) (sq : Int) (b : Bx), x = .ref d ∧ y = .ref kt ∧ NDict P w H3 d xs ∧ KeyAt H3 kt sq b ∧ xs.length < sizeLine ∧
  ∀ u, RelV v u → D.nx σ (upd H3 d (NDO P w d (storedH xs (nkey sq b) kt u)))
def tNDNew (P : Program) (w : World) : TE := fun σ H Q => ∀ d, H d = none → NDict P w (upd H d (NDO P w d [])) d [] → Q (.ref d) (upd H d (NDO P w d []))
theorem pe_ndget (hu : X.A.units + 64 < cLine) (ho : PE X o td) (hi : PE X i ty) (hs : NoSl i) : PE X (.Subscript o i pos) (tNDGet X.prog X.w td ty) := by
  refine ⟨fun pins s σ H Q I h => ?_⟩
  refine subD_of PySem.F.slot_dict_getitem.lookup hs (thn (ho.run pins s σ H _ I h) fun u s1 ⟨x, H1, I1, rx, q1⟩ => thn (hi.run pins s1 σ H1 _ I1 q1) fun iv s2 ⟨y, H2, I2, ry, d, kt, xs, sq, b, p, v, ex, ey, D, k, hp, rv, q2⟩ => ?_)
  subst ex ey
  obtain rfl : u = Value.ref d := rx
  obtain rfl : iv = Value.ref kt := ry
  have dd := D.held I2.hok
  exact ⟨dd.typeIs, wpAny_getItem_heap (nroom hu) (k.is I2.hok) dd hp ⟨v, H2, I2.tok _, rv, q2⟩⟩
theorem pc_ndnot (hu : X.A.units + 64 < cLine) (hi : PE X i ty) (ho : PE X o td) : PC X .NotIn i o (tNDNot X.prog X.w ty td) := by
  refine ⟨fun pins s σ H Q I h => ?_⟩
  refine thn (hi.run pins s σ H _ I h) fun iv s1 ⟨y, H1, I1, ry, q1⟩ => thn (ho.run pins s1 σ H1 _ I1 q1) fun u s2 ⟨x, H2, I2, rx, d, kt, xs, sq, b, ex, ey, D, k, q2⟩ => ?_
  subst ex ey
  obtain rfl : u = Value.ref d := rx
  obtain rfl : iv = Value.ref kt := ry
  exact wpAny_notIn_heap (nroom hu) (k.is I2.hok) D.ns (D.held I2.hok) ⟨.bl (!(atKey xs (nkey sq b)).isSome), H2, I2.tok _, rfl, q2⟩
theorem ps_ndput (hu : X.A.units + 64 < cLine) (ho : PE X o td) (hi : PE X i ty) (hv : PE X value tv) (hs : swapsWith value (some (.Subscript o i pos')) pos.line X.env = pure false) :
    PS X (.Assign [.Subscript o i pos'] value pos) (sNDPut X.prog X.w td ty tv) := by
  refine ⟨fun pins s σ H D I h => ?_⟩
  refine wpAny_Assign_Subscript (thn (hv.run pins s σ H _ I h) fun r s1 ⟨v, H1, I1, rv, q1⟩ => thn (ho.run pins s1 σ H1 _ I1 q1) fun u s2 ⟨x, H2, I2, rx, q2⟩ => thn (hi.run pins s2 σ H2 _ I2 q2) fun iv s3 ⟨y, H3, I3, ry, d, kt, xs, sq, b, ex, ey, ND, k, hl, q3⟩ => ?_) hs
  subst ex ey
  obtain rfl : u = Value.ref d := rx
  obtain rfl : iv = Value.ref kt := ry
  refine wpAny_setItem_heap (hsz := ND.sz) (nroom hu) (k.is I3.hok) (ND.held I3.hok) fun h' dd' hs' => ?_
  have he : ∃ q, h'.get? d = some q := let ⟨q, _, _, hq, _⟩ := dd'; ⟨q, hq⟩
  exact ⟨σ, _, d_write I3 (by rw [ND.at_]; exact True.intro) hs' he (ndo_ok dd'), q3 r rv⟩
theorem pe_ndnew : PE X (.Dict [] [] pos) (tNDNew X.prog X.w) := ⟨fun pins s σ H Q I h => by
  have hd := Heap.DictOfH.new (knd := nestedKind X.prog X.w) s.heap
  refine wpAny_Dict_empty ⟨.ref s.heap.objs.size, _, I.laid (a := s.heap.objs.size) (o := NDO X.prog X.w s.heap.objs.size []) (t' := s.toks) (fun _ _ q => Heap.get?_push_of_some _ q) (Nat.le_refl _) (ndo_ok hd), rfl, h _ (I.hok.fresh (Nat.le_refl _)) ?_⟩
  refine ⟨upd_same, Nat.zero_le _, ?_, List.nodup_nil, fun x hx => by cases hx⟩
  have := I.big
  simpa using Nat.ne_of_gt this⟩
end
end Jf
/-! JfM2 -/
set_option linter.all false
set_option autoImplicit false
/-! Fields (windows about the middle), evolution, counting. -/
namespace Jf
theorem node_congr {a b c d a' b' c' d' : Q} (h1 : a = a') (h2 : b = b') (h3 : c = c') (h4 : d = d') : Q.node a b c d = .node a' b' c' d' := by rw [h1, h2, h3, h4]
theorem win_at {f : Pl} {k : Nat} {x y x' y' : Int} (h1 : x = x') (h2 : y = y') : win f k x y = win f k x' y' := by rw [h1, h2]
/-! ### fields -/
def cw (f : Pl) (k : Nat) : Q := win f k (-(p2 (k - 1))) (-(p2 (k - 1)))
def sup (f : Pl) (k : Nat) : Prop := ∀ x y : Int, f x y ≠ 0 → -(p2 (k - 1)) ≤ x ∧ x < p2 (k - 1) ∧ -(p2 (k - 1)) ≤ y ∧ y < p2 (k - 1)
structure isF (f : Pl) (k : Nat) : Prop where
  pos : 1 ≤ k
  sup : sup f k
  least : k = 1 ∨ ¬ Jf.sup f (k - 1)
theorem sup_mono {f : Pl} {j k : Nat} (h : sup f j) (hj : j ≤ k) : sup f k := fun x y e => by
  have z := h x y e
  have m := p2_mono (show j - 1 ≤ k - 1 by omega)
  omega
theorem isF_unique {f : Pl} {j k : Nat} (a : isF f j) (b : isF f k) : j = k := by
  obtain ⟨a1, a2, a3⟩ := a
  obtain ⟨b1, b2, b3⟩ := b
  by_cases h : j < k
  · rcases b3 with b3 | b3
    · omega
    · exact (b3 (sup_mono a2 (by omega))).elim
  · by_cases h' : k < j
    · rcases a3 with a3 | a3
      · omega
      · exact (a3 (sup_mono b2 (by omega))).elim
    · omega
/-- sixteen windows of a field -/
theorem cw16 (f : Pl) (k : Nat) : cw f (k + 2) = .node
    (.node (win f k (-(2 * p2 k)) (-(2 * p2 k))) (win f k (-(p2 k)) (-(2 * p2 k))) (win f k (-(2 * p2 k)) (-(p2 k))) (win f k (-(p2 k)) (-(p2 k))))
    (.node (win f k 0 (-(2 * p2 k))) (win f k (p2 k) (-(2 * p2 k))) (win f k 0 (-(p2 k))) (win f k (p2 k) (-(p2 k))))
    (.node (win f k (-(2 * p2 k)) 0) (win f k (-(p2 k)) 0) (win f k (-(2 * p2 k)) (p2 k)) (win f k (-(p2 k)) (p2 k)))
    (.node (win f k 0 0) (win f k (p2 k) 0) (win f k 0 (p2 k)) (win f k (p2 k) (p2 k))) := by
  have e : cw f (k + 2) = win f (k + 2) (-(p2 (k + 1))) (-(p2 (k + 1))) := rfl
  rw [e, win_succ, win_succ, win_succ, win_succ, win_succ, p2_succ]
  refine node_congr (node_congr ?_ ?_ ?_ ?_) (node_congr ?_ ?_ ?_ ?_) (node_congr ?_ ?_ ?_ ?_) (node_congr ?_ ?_ ?_ ?_) <;> refine win_at ?_ ?_ <;> omega
theorem cw4 (f : Pl) (k : Nat) : cw f (k + 1) = .node (win f k (-(p2 k)) (-(p2 k))) (win f k 0 (-(p2 k))) (win f k (-(p2 k)) 0) (win f k 0 0) := by
  have e : cw f (k + 1) = win f (k + 1) (-(p2 k)) (-(p2 k)) := rfl
  rw [e, win_succ]
  refine node_congr ?_ ?_ ?_ ?_ <;> refine win_at ?_ ?_ <;> omega
/-- outside of its square a field is nothing -/
theorem sup_out {f : Pl} {k : Nat} (h : sup f (k + 1)) {x y : Int} (o : x + p2 k ≤ -(p2 k) ∨ p2 k ≤ x ∨ y + p2 k ≤ -(p2 k) ∨ p2 k ≤ y) : win f k x y = solid k 0 := by
  refine win_solid fun i j h1 h2 h3 h4 => ?_
  refine Classical.byContradiction fun e => ?_
  have z := h _ _ e
  rw [show k + 1 - 1 = k from rfl] at z
  omega
theorem cw_widen {f : Pl} {k : Nat} (h : sup f (k + 1)) : cw f (k + 2) = .node
    (.node (solid k 0) (solid k 0) (solid k 0) (win f k (-(p2 k)) (-(p2 k))))
    (.node (solid k 0) (solid k 0) (win f k 0 (-(p2 k))) (solid k 0))
    (.node (solid k 0) (win f k (-(p2 k)) 0) (solid k 0) (solid k 0))
    (.node (win f k 0 0) (solid k 0) (solid k 0) (solid k 0)) := by
  have pk := p2_pos k
  rw [cw16]
  refine node_congr (node_congr ?_ ?_ ?_ rfl) (node_congr ?_ ?_ rfl ?_) (node_congr ?_ rfl ?_ ?_) (node_congr rfl ?_ ?_ ?_) <;> exact sup_out h (by omega)
theorem lives_inner {f : Pl} {k : Nat} (h : sup f (k + 2)) : lives (cw f (k + 1)) ≤ lives (cw f (k + 2)) ∧ (lives (cw f (k + 1)) < lives (cw f (k + 2)) ↔ ¬ sup f (k + 1)) := by
  have pk := p2_pos k
  have ps := p2_succ k
  rw [cw16, cw4]
  simp only [lives_node]
  refine ⟨by omega, ?_⟩
  constructor
  · intro hl hs
    have z : ∀ {x y : Int}, (x + p2 k ≤ -(p2 k) ∨ p2 k ≤ x ∨ y + p2 k ≤ -(p2 k) ∨ p2 k ≤ y) → lives (win f k x y) = 0 := fun {x y} o => by
      rw [sup_out hs o, solid_win 0 k 0 0]
      exact lives_zero.mpr fun _ _ _ _ _ _ => rfl
    rw [z (x := -(2 * p2 k)) (y := -(2 * p2 k)) (by omega), z (x := -(p2 k)) (y := -(2 * p2 k)) (by omega), z (x := -(2 * p2 k)) (y := -(p2 k)) (by omega),
      z (x := 0) (y := -(2 * p2 k)) (by omega), z (x := p2 k) (y := -(2 * p2 k)) (by omega), z (x := p2 k) (y := -(p2 k)) (by omega),
      z (x := -(2 * p2 k)) (y := 0) (by omega), z (x := -(2 * p2 k)) (y := p2 k) (by omega), z (x := -(p2 k)) (y := p2 k) (by omega),
      z (x := p2 k) (y := 0) (by omega), z (x := 0) (y := p2 k) (by omega), z (x := p2 k) (y := p2 k) (by omega)] at hl
    omega
  · intro hs
    refine Classical.byContradiction fun hl => hs fun x y e => ?_
    have hb := h x y e
    rw [show k + 2 - 1 = k + 1 from rfl, ps] at hb
    rw [show k + 1 - 1 = k from rfl]
    refine Classical.byContradiction fun ho => ?_
    -- the window in which (x, y) lies
    have key : ∀ a b : Int, lives (win f k a b) = 0 → a ≤ x → x < a + p2 k → b ≤ y → y < b + p2 k → False := fun a b hz h1 h2 h3 h4 => by
      have q := lives_zero.mp hz (x - a) (y - b) (by omega) (by omega) (by omega) (by omega)
      rw [show a + (x - a) = x by omega, show b + (y - b) = y by omega] at q
      exact e q
    by_cases x1 : x < -(p2 k)
    · by_cases y1 : y < -(p2 k)
      · exact key (-(2 * p2 k)) (-(2 * p2 k)) (by omega) (by omega) (by omega) (by omega) (by omega)
      · by_cases y2 : y < 0
        · exact key (-(2 * p2 k)) (-(p2 k)) (by omega) (by omega) (by omega) (by omega) (by omega)
        · by_cases y3 : y < p2 k
          · exact key (-(2 * p2 k)) 0 (by omega) (by omega) (by omega) (by omega) (by omega)
          · exact key (-(2 * p2 k)) (p2 k) (by omega) (by omega) (by omega) (by omega) (by omega)
    · by_cases x2 : x < 0
      · by_cases y1 : y < -(p2 k)
        · exact key (-(p2 k)) (-(2 * p2 k)) (by omega) (by omega) (by omega) (by omega) (by omega)
        · exact key (-(p2 k)) (p2 k) (by omega) (by omega) (by omega) (by omega) (by omega)
      · by_cases x3 : x < p2 k
        · by_cases y1 : y < -(p2 k)
          · exact key 0 (-(2 * p2 k)) (by omega) (by omega) (by omega) (by omega) (by omega)
          · exact key 0 (p2 k) (by omega) (by omega) (by omega) (by omega) (by omega)
        · by_cases y1 : y < -(p2 k)
          · exact key (p2 k) (-(2 * p2 k)) (by omega) (by omega) (by omega) (by omega) (by omega)
          · by_cases y2 : y < 0
            · exact key (p2 k) (-(p2 k)) (by omega) (by omega) (by omega) (by omega) (by omega)
            · by_cases y3 : y < p2 k
              · exact key (p2 k) 0 (by omega) (by omega) (by omega) (by omega) (by omega)
              · exact key (p2 k) (p2 k) (by omega) (by omega) (by omega) (by omega) (by omega)
theorem lives_cw {f : Pl} {k : Nat} (hk : 1 ≤ k) (h : sup f k) : lives (cw f k) = 0 ↔ ∀ x y, f x y = 0 := by
  obtain ⟨k, rfl⟩ : ∃ j, k = j + 1 := ⟨k - 1, by omega⟩
  have ps := p2_succ k
  have e : cw f (k + 1) = win f (k + 1) (-(p2 k)) (-(p2 k)) := rfl
  rw [e, lives_zero]
  constructor
  · intro z x y
    refine Classical.byContradiction fun n => ?_
    have q := h x y n
    rw [show k + 1 - 1 = k from rfl] at q
    have w := z (x + p2 k) (y + p2 k) (by omega) (by omega) (by omega) (by omega)
    rw [show -p2 k + (x + p2 k) = x by omega, show -p2 k + (y + p2 k) = y by omega] at w
    exact n w
  · intro z i j _ _ _ _
    exact z _ _
/-- the empty field -/
def zeroPl : Pl := fun _ _ => 0
theorem isF_zero : isF zeroPl 1 := ⟨Nat.le_refl 1, fun x y e => (e rfl).elim, .inl rfl⟩
theorem sup_zero (k : Nat) : sup zeroPl k := fun x y e => (e rfl).elim

/-! ### evolution -/
def it (m : Nat → Nat) : Nat → Nat → Nat
  | 0, s => s
  | n + 1, s => m (it m n s)
theorem it_add (m : Nat → Nat) (a b : Nat) (s : Nat) : it m (a + b) s = it m a (it m b s) := by
  induction a with
  | zero => rw [Nat.zero_add]; rfl
  | succ a ih => rw [Nat.succ_add]; show m (it m (a + b) s) = m (it m a (it m b s)); rw [ih]
theorem it_succ' (m : Nat → Nat) (n : Nat) (s : Nat) : it m (n + 1) s = it m n (m s) := it_add m n 1 s
/-- a map of the states, and the place that a cell looks at -/
structure Gl where
  m : Nat → Nat
  ox : Int
  oy : Int
  z : m 0 = 0
  le : ∀ s, s ≤ 7 → m s ≤ 7
  hx : -1 ≤ ox ∧ ox ≤ 1
  hy : -1 ≤ oy ∧ oy ≤ 1
theorem Gl.it0 (g : Gl) : ∀ n, it g.m n 0 = 0
  | 0 => rfl
  | n + 1 => by show g.m (it g.m n 0) = 0; rw [g.it0 n, g.z]
theorem Gl.itle (g : Gl) {s : Nat} (h : s ≤ 7) : ∀ n, it g.m n s ≤ 7
  | 0 => h
  | n + 1 => g.le _ (g.itle h n)
def ev (g : Gl) (n : Nat) (f : Pl) : Pl := fun x y => it g.m n (f (x + n * g.ox) (y + n * g.oy))
theorem ev_zero (g : Gl) (f : Pl) : ev g 0 f = f := by
  funext x y
  show f (x + ((0 : Nat) : Int) * g.ox) (y + ((0 : Nat) : Int) * g.oy) = f x y
  rw [Int.natCast_zero, Int.zero_mul, Int.zero_mul, Int.add_zero, Int.add_zero]
theorem ev_add (g : Gl) (a b : Nat) (f : Pl) : ev g a (ev g b f) = ev g (a + b) f := by
  funext x y
  show it g.m a (it g.m b (f (x + a * g.ox + b * g.ox) (y + a * g.oy + b * g.oy))) = it g.m (a + b) (f (x + ((a + b : Nat) : Int) * g.ox) (y + ((a + b : Nat) : Int) * g.oy))
  rw [it_add, Int.natCast_add, Int.add_mul, Int.add_mul, Int.add_assoc, Int.add_assoc]
theorem ev_one (g : Gl) (f : Pl) (x y : Int) : ev g 1 f x y = g.m (f (x + g.ox) (y + g.oy)) := by
  show g.m (f (x + ((1 : Nat) : Int) * g.ox) (y + ((1 : Nat) : Int) * g.oy)) = _
  rw [Int.natCast_one, Int.one_mul, Int.one_mul]
theorem ev_zeroPl (g : Gl) (n : Nat) : ev g n zeroPl = zeroPl := by
  funext x y
  exact g.it0 n
theorem ev_le (g : Gl) {n : Nat} {f : Pl} (h : ∀ x y, f x y ≤ 7) : ∀ x y, ev g n f x y ≤ 7 := fun x y => g.itle (h _ _) n
theorem mul_unit {n : Nat} {o : Int} (h : -1 ≤ o ∧ o ≤ 1) : -(n : Int) ≤ n * o ∧ (n : Int) * o ≤ n := by
  obtain ⟨h1, h2⟩ := h
  rcases (show o = -1 ∨ o = 0 ∨ o = 1 by omega) with rfl | rfl | rfl <;> omega
/-- bounds of a field's living cells -/
def bnd (f : Pl) (B : Int) : Prop := ∀ x y, f x y ≠ 0 → -B ≤ x ∧ x < B ∧ -B ≤ y ∧ y < B
theorem bnd_ev (g : Gl) {f : Pl} {B : Int} (h : bnd f B) (n : Nat) : bnd (ev g n f) (B + n) := fun x y e => by
  have e1 : f (x + n * g.ox) (y + n * g.oy) ≠ 0 := fun z => e (by show it g.m n (f (x + n * g.ox) (y + n * g.oy)) = 0; rw [z, g.it0])
  have q := h _ _ e1
  have m1 := mul_unit (n := n) g.hx
  have m2 := mul_unit (n := n) g.hy
  omega
theorem bnd_sup {f : Pl} {k : Nat} (h : bnd f (p2 (k - 1))) : sup f k := h
theorem isF_le {f : Pl} {k K : Nat} (F : isF f k) (hK : 1 ≤ K) (h : bnd f (p2 (K - 1))) : k ≤ K := by
  refine Classical.byContradiction fun n => ?_
  rcases F.least with e | e
  · omega
  · exact e (sup_mono (bnd_sup h) (by omega))
end Jf
/-! JfM3 -/
/-! Counting: at most so many unlike squares. -/
namespace Jf
/-! ### the calculus of bounds -/
def Bd {α : Type} (S : α → Prop) (N : Nat) : Prop := ∀ l : List α, l.Nodup → (∀ q ∈ l, S q) → l.length ≤ N
section
variable {α : Type} {S T : α → Prop} {M N : Nat}
theorem Bd.mono (h : Bd S N) (hs : ∀ q, T q → S q) (hn : N ≤ M) : Bd T M := fun l nd hl => Nat.le_trans (h l nd fun q hq => hs q (hl q hq)) hn
theorem Bd.none (h : ∀ q, ¬ S q) : Bd S 0 := fun l _ hl => by
  cases l with
  | nil => exact Nat.le_refl 0
  | cons a r => exact (h a (hl a (List.mem_cons_self ..))).elim
theorem Bd.one (h : ∀ q q', S q → S q' → q = q') : Bd S 1 := fun l nd hl => by
  match l, nd, hl with
  | [], _, _ => exact Nat.zero_le 1
  | [_], _, _ => exact Nat.le_refl 1
  | a :: b :: r, nd, hl =>
    have e := h a b (hl a (by simp)) (hl b (by simp))
    rw [e] at nd
    simp at nd
theorem Bd.or (h : Bd S M) (h' : Bd T N) : Bd (fun q => S q ∨ T q) (M + N) := fun l nd hl => by
  classical
  have e : l.length = (l.filter fun q => decide (S q)).length + (l.filter fun q => decide (¬ S q)).length := by
    clear hl nd
    induction l with
    | nil => rfl
    | cons a r ih =>
      by_cases ha : S a
      · rw [List.filter_cons_of_pos (by simpa using ha), List.filter_cons_of_neg (by simpa using ha), List.length_cons, List.length_cons, ih]
        omega
      · rw [List.filter_cons_of_neg (by simpa using ha), List.filter_cons_of_pos (by simpa using ha), List.length_cons, List.length_cons, ih]
        omega
  have h1 := h (l.filter fun q => decide (S q)) (nd.filter _) fun q hq => of_decide_eq_true (List.mem_filter.mp hq).2
  have h2 := h' (l.filter fun q => decide (¬ S q)) (nd.filter _) fun q hq => by
    obtain ⟨m, z⟩ := List.mem_filter.mp hq
    have z' : ¬ S q := of_decide_eq_true z
    rcases hl q m with w | w
    · exact (z' w).elim
    · exact w
  omega
theorem Bd.ex {F : Nat → α → Prop} {A : Nat} (h : ∀ a, a < A → Bd (F a) N) : Bd (fun q => ∃ a, a < A ∧ F a q) (A * N) := by
  induction A with
  | zero => exact (Bd.none fun q ⟨a, ha, _⟩ => Nat.not_lt_zero a ha).mono (fun q h => h) (by omega)
  | succ A ih =>
    refine ((ih fun a ha => h a (by omega)).or (h A (by omega))).mono (fun q ⟨a, ha, z⟩ => ?_) (by rw [Nat.succ_mul]; exact Nat.le_refl _)
    by_cases e : a = A
    · exact .inr (e ▸ z)
    · exact .inl ⟨a, by omega, z⟩
theorem Bd.mem {β : Type} {F : β → α → Prop} : ∀ {L : List β}, (∀ b, b ∈ L → Bd (F b) N) → Bd (fun q => ∃ b, b ∈ L ∧ F b q) (L.length * N)
  | [], _ => (Bd.none fun q ⟨b, hb, _⟩ => by cases hb).mono (fun q h => h) (by simp)
  | b :: r, h => by
    refine ((h b (List.mem_cons_self ..)).or (Bd.mem (L := r) fun c hc => h c (List.mem_cons_of_mem _ hc))).mono (fun q ⟨c, hc, z⟩ => ?_) (by rw [List.length_cons, Nat.succ_mul]; omega)
    rcases List.mem_cons.mp hc with e | e
    · exact .inl (e ▸ z)
    · exact .inr ⟨c, e, z⟩
/-- through a function that tells apart -/
theorem Bd.inj {β : Type} {U : β → Prop} (h : Bd U N) (f : α → β) (hf : ∀ q q', S q → S q' → f q = f q' → q = q') (hu : ∀ q, S q → U (f q)) : Bd S N := fun l nd hl => by
  have e : (l.map f).Nodup := by
    clear h
    induction l with
    | nil => exact List.nodup_nil
    | cons a r ih =>
      obtain ⟨n1, n2⟩ := List.nodup_cons.mp nd
      rw [List.map_cons]
      refine List.nodup_cons.mpr ⟨fun m => ?_, ih n2 fun q hq => hl q (List.mem_cons_of_mem _ hq)⟩
      obtain ⟨b, hb, z⟩ := List.mem_map.mp m
      have w := hf b a (hl b (List.mem_cons_of_mem _ hb)) (hl a (List.mem_cons_self ..)) z
      exact n1 (w ▸ hb)
  have q := h (l.map f) e fun q hq => by
    obtain ⟨a, ha, z⟩ := List.mem_map.mp hq
    rw [← z]
    exact hu a (hl a ha)
  rw [List.length_map] at q
  exact q
theorem Bd.lt (n : Nat) : Bd (fun a : Nat => a < n) n := by
  have h := Bd.ex (F := fun a (q : Nat) => q = a) (N := 1) (A := n) fun a _ => Bd.one fun q q' h h' => h.trans h'.symm
  exact h.mono (fun q hq => ⟨q, hq, rfl⟩) (by omega)
end

/-! ### the powers of a map of eight states -/
theorem it_periodic {m : Nat → Nat} {d i : Nat} {s : Nat} (h : it m (i + d) s = it m i s) : ∀ n, i ≤ n → ∀ c, it m (n + d * c) s = it m n s := by
  have one : ∀ n, i ≤ n → it m (n + d) s = it m n s := fun n hn => by
    have e1 : n + d = (n - i) + (i + d) := by omega
    have e2 : it m n s = it m (n - i) (it m i s) := by rw [← it_add]; congr 1; omega
    rw [e1, it_add, h, ← e2]
  intro n hn c
  induction c with
  | zero => rw [Nat.mul_zero, Nat.add_zero]
  | succ c ih =>
    rw [Nat.mul_succ, ← Nat.add_assoc, one _ (by omega), ih]
theorem it_420 (g : Gl) {s : Nat} (hs : s ≤ 7) {n : Nat} (hn : 7 ≤ n) : it g.m (n + 420) s = it g.m n s := by
  by_cases z : ∃ i, i ≤ 7 ∧ it g.m i s = 0
  · obtain ⟨i, hi, e⟩ := z
    have z0 : ∀ k, i ≤ k → it g.m k s = 0 := fun k hk => by
      have e2 : k = (k - i) + i := by omega
      rw [e2, it_add, e, g.it0]
    rw [z0 _ (by omega), z0 _ (by omega)]
  · -- eight values in 1 .. 7
    have val : ∀ i, i ≤ 7 → it g.m i s - 1 < 7 ∧ 1 ≤ it g.m i s := fun i hi => by
      have h1 : it g.m i s ≠ 0 := fun e => z ⟨i, hi, e⟩
      have h2 := g.itle hs i
      omega
    have dup : ∃ i j, i < j ∧ j ≤ 7 ∧ it g.m i s = it g.m j s := by
      refine Classical.byContradiction fun no => ?_
      have nd : ((List.range 8).map fun i => it g.m i s - 1).Nodup := by
        rw [List.nodup_iff_pairwise_ne, List.pairwise_map]
        refine List.Pairwise.imp_of_mem (R := fun a b => a < b) (fun {a b} ha hb hab e => ?_) (by simpa using List.pairwise_lt_range (n := 8))
        have ha' := List.mem_range.mp ha
        have hb' := List.mem_range.mp hb
        have va := val a (by omega)
        have vb := val b (by omega)
        exact no ⟨a, b, hab, by omega, by omega⟩
      have q := Bd.lt 7 _ nd fun q hq => by
        obtain ⟨a, ha, e⟩ := List.mem_map.mp hq
        have := val a (by have := List.mem_range.mp ha; omega)
        omega
      rw [List.length_map, List.length_range] at q
      omega
    obtain ⟨i, j, hij, hj, e⟩ := dup
    have h : it g.m (i + (j - i)) s = it g.m i s := by rw [show i + (j - i) = j by omega]; exact e.symm
    have dv : ∃ c, 420 = (j - i) * c := by
      rcases (show j - i = 1 ∨ j - i = 2 ∨ j - i = 3 ∨ j - i = 4 ∨ j - i = 5 ∨ j - i = 6 ∨ j - i = 7 by omega) with w | w | w | w | w | w | w <;> rw [w]
      · exact ⟨420, rfl⟩
      · exact ⟨210, rfl⟩
      · exact ⟨140, rfl⟩
      · exact ⟨105, rfl⟩
      · exact ⟨84, rfl⟩
      · exact ⟨70, rfl⟩
      · exact ⟨60, rfl⟩
    obtain ⟨c, hc⟩ := dv
    rw [hc]
    exact it_periodic h n (by omega) c
def cls7 (t : Nat) : Nat := if t < 7 then t else 7 + (t - 7) % 420
theorem cls7_lt (t : Nat) : cls7 t < 427 := by
  unfold cls7
  split <;> omega
theorem it_cls7 (g : Gl) {s : Nat} (hs : s ≤ 7) (t : Nat) : it g.m t s = it g.m (cls7 t) s := by
  unfold cls7
  split
  · rfl
  · have e : ∀ c r, 7 ≤ r → it g.m (r + 420 * c) s = it g.m r s := fun c r hr => by
      induction c with
      | zero => rw [Nat.mul_zero, Nat.add_zero]
      | succ c ih => rw [Nat.mul_succ, ← Nat.add_assoc, it_420 g hs (by omega), ih]
    have e2 : t = 7 + (t - 7) % 420 + 420 * ((t - 7) / 420) := by omega
    have q := e ((t - 7) / 420) (7 + (t - 7) % 420) (by omega)
    rw [← e2] at q
    exact q

/-! ### the windows of a moving pattern -/
def al (j : Nat) (x : Int) : Prop := p2 (j - 2) ∣ x
/-- a pattern: nothing outside of its box -/
structure Pat where
  g : Gl
  f : Pl
  X : Int
  Y : Int
  bw : Nat
  bh : Nat
  le : ∀ x y, f x y ≤ 7
  ins : ∀ x y, f x y ≠ 0 → X ≤ x ∧ x < X + bw ∧ Y ≤ y ∧ y < Y + bh
  hw : 1 ≤ bw
  hh : 1 ≤ bh
  /-- classes of times: alike times make alike states -/
  PC : Nat
  cl : Nat → Nat
  cl_lt : ∀ t, cl t < PC
  cl_ok : ∀ t t', cl t = cl t' → ∀ x y, it g.m t (f x y) = it g.m t' (f x y)
/-- the windows of level j that may come by behind t0 -/
def SE (P : Pat) (t0 j : Nat) (q : Q) : Prop := ∃ (t : Nat) (x y : Int), t0 ≤ t ∧ p2 (j - 2) ∣ ((t : Int) - t0) ∧ al j x ∧ al j y ∧ q = win (ev P.g t P.f) j x y
theorem dvd_small {M d : Int} (h : M ∣ d) (h1 : -M < d) (h2 : d < M) : d = 0 := by
  obtain ⟨c, rfl⟩ := h
  by_cases c0 : c = 0
  · rw [c0, Int.mul_zero]
  · have hM : 0 < M := by omega
    by_cases cp : 1 ≤ c
    · have := Int.mul_le_mul_of_nonneg_left cp (Int.le_of_lt hM)
      omega
    · have := Int.mul_le_mul_of_nonneg_left (show c ≤ -1 by omega) (Int.le_of_lt hM)
      omega
theorem ediv_same {M a b : Int} (hM : 0 < M) (h : M ∣ (a - b)) (e : a / M = b / M) : a = b := by
  have ea := Int.mul_ediv_add_emod a M
  have eb := Int.mul_ediv_add_emod b M
  have a1 := Int.emod_nonneg a (show M ≠ 0 by omega)
  have a2 := Int.emod_lt_of_pos a hM
  have b1 := Int.emod_nonneg b (show M ≠ 0 by omega)
  have b2 := Int.emod_lt_of_pos b hM
  rw [e] at ea
  have := dvd_small h (by omega) (by omega)
  omega
theorem four_le (j : Nat) : p2 j ≤ 4 * p2 (j - 2) := by
  by_cases h : 2 ≤ j
  · obtain ⟨k, rfl⟩ : ∃ k, j = k + 2 := ⟨j - 2, by omega⟩
    rw [p2_succ, p2_succ, show k + 2 - 2 = k from rfl]
    omega
  · rcases (show j = 0 ∨ j = 1 by omega) with rfl | rfl <;> decide
theorem code_lt {N M : Int} {b : Nat} (hM : 0 < M) (hb : 1 ≤ b) (h0 : 0 ≤ N) (h : N < 4 * M + b - 1) : (N / M).toNat < b + 4 ∧ 0 ≤ N / M := by
  have d0 := Int.ediv_nonneg h0 (Int.le_of_lt hM)
  have e : N < ((b : Int) + 4) * M := by
    have q : (b : Int) * 1 ≤ b * M := Int.mul_le_mul_of_nonneg_left (by omega) (by omega)
    have w : ((b : Int) + 4) * M = b * M + 4 * M := Int.add_mul _ _ _
    omega
  have d1 := Int.ediv_lt_of_lt_mul hM e
  omega
/-- windows with codes -/
def SEc (P : Pat) (t0 j u v c : Nat) (q : Q) : Prop := ∃ (t : Nat) (x y : Int), p2 (j - 2) ∣ ((t : Int) - t0) ∧ al j x ∧ al j y ∧ q = win (ev P.g t P.f) j x y ∧
  (P.X - t * P.g.ox - x + P.bw - 1) / p2 (j - 2) = u ∧ (P.Y - t * P.g.oy - y + P.bh - 1) / p2 (j - 2) = v ∧ P.cl t = c
theorem dvd_off {M t t' t0 o x x' X b : Int} (h : M ∣ (t - t0)) (h' : M ∣ (t' - t0)) (hx : M ∣ x) (hx' : M ∣ x') : M ∣ ((X - t * o - x + b - 1) - (X - t' * o - x' + b - 1)) := by
  have e : (X - t * o - x + b - 1) - (X - t' * o - x' + b - 1) = ((t' - t0) - (t - t0)) * o + (x' - x) := by
    rw [Int.sub_mul, Int.sub_mul, Int.sub_mul]
    omega
  rw [e]
  exact Int.dvd_add (Int.dvd_trans (Int.dvd_sub h' h) (Int.dvd_mul_right _ _)) (Int.dvd_sub hx' hx)
theorem SEc_one (P : Pat) (t0 j u v c : Nat) : Bd (SEc P t0 j u v c) 1 := by
  refine Bd.one fun q q' h h' => ?_
  obtain ⟨t, x, y, ht, hx, hy, rfl, eu, ev', ec⟩ := h
  obtain ⟨t', x', y', ht', hx', hy', rfl, eu', ev'', ec'⟩ := h'
  have hM := p2_pos (j - 2)
  have r1 := ediv_same hM (dvd_off (X := P.X) (b := P.bw) (o := P.g.ox) ht ht' hx hx') (eu.trans eu'.symm)
  have r2 := ediv_same hM (dvd_off (X := P.Y) (b := P.bh) (o := P.g.oy) ht ht' hy hy') (ev'.trans ev''.symm)
  refine win_ext fun i k _ _ _ _ => ?_
  show it P.g.m t (P.f (x + i + t * P.g.ox) (y + k + t * P.g.oy)) = it P.g.m t' (P.f (x' + i + t' * P.g.ox) (y' + k + t' * P.g.oy))
  rw [show x + i + t * P.g.ox = x' + i + t' * P.g.ox by omega, show y + k + t * P.g.oy = y' + k + t' * P.g.oy by omega]
  exact P.cl_ok t t' (ec.trans ec'.symm) _ _
theorem SE_code (P : Pat) {t0 j : Nat} {q : Q} (h : SE P t0 j q) : q = solid j 0 ∨ ∃ u, u < P.bw + 4 ∧ ∃ v, v < P.bh + 4 ∧ ∃ c, c < P.PC ∧ SEc P t0 j u v c q := by
  obtain ⟨t, x, y, h0, ht, hx, hy, rfl⟩ := h
  by_cases e : ∃ i k : Int, 0 ≤ i ∧ i < p2 j ∧ 0 ≤ k ∧ k < p2 j ∧ ev P.g t P.f (x + i) (y + k) ≠ 0
  · obtain ⟨i, k, i1, i2, k1, k2, n⟩ := e
    have n1 : P.f (x + i + t * P.g.ox) (y + k + t * P.g.oy) ≠ 0 := fun z => n (by show it P.g.m t (P.f (x + i + t * P.g.ox) (y + k + t * P.g.oy)) = 0; rw [z, P.g.it0])
    have b := P.ins _ _ n1
    have hM := p2_pos (j - 2)
    have h4 := four_le j
    have c1 := code_lt (N := P.X - t * P.g.ox - x + P.bw - 1) hM P.hw (by omega) (by omega)
    have c2 := code_lt (N := P.Y - t * P.g.oy - y + P.bh - 1) hM P.hh (by omega) (by omega)
    exact .inr ⟨_, c1.1, _, c2.1, _, P.cl_lt t, t, x, y, ht, hx, hy, rfl, by omega, by omega, rfl⟩
  · refine .inl (win_solid fun i k i1 i2 k1 k2 => ?_)
    exact Classical.byContradiction fun n => e ⟨i, k, i1, i2, k1, k2, n⟩
theorem SE_bd (P : Pat) (t0 j : Nat) : Bd (fun q => SE P t0 j q) (1 + (P.bw + 4) * ((P.bh + 4) * P.PC)) := by
  have h1 : Bd (fun q : Q => q = solid j 0) 1 := Bd.one fun q q' h h' => h.trans h'.symm
  have h2 : Bd (fun q => ∃ u, u < P.bw + 4 ∧ ∃ v, v < P.bh + 4 ∧ ∃ c, c < P.PC ∧ SEc P t0 j u v c q) ((P.bw + 4) * ((P.bh + 4) * (P.PC * 1))) :=
    Bd.ex fun u _ => Bd.ex fun v _ => Bd.ex fun c _ => SEc_one P t0 j u v c
  exact (h1.or h2).mono (fun q h => SE_code P h) (by rw [Nat.mul_one]; exact Nat.le_refl _)
/-- all levels to 48, some times -/
def ST (P : Pat) (T : List Nat) (q : Q) : Prop := ∃ t0, t0 ∈ T ∧ ∃ j, j < 49 ∧ SE P t0 j q
theorem ST_bd (P : Pat) (T : List Nat) : Bd (ST P T) (T.length * (49 * (1 + (P.bw + 4) * ((P.bh + 4) * P.PC)))) :=
  Bd.mem fun t0 _ => Bd.ex fun j _ => SE_bd P t0 j
def SolidS (q : Q) : Prop := ∃ j, j < 49 ∧ ∃ s, s < 8 ∧ q = solid j s
theorem Solid_bd : Bd SolidS 392 := (Bd.ex (A := 49) (N := 8) fun j _ => (Bd.ex (A := 8) (N := 1) fun s _ => Bd.one fun q q' h h' => h.trans h'.symm).mono (fun q h => h) (by omega)).mono (fun q h => h) (by omega)
/-- the jumps remembered: (t0, e), all levels -/
def RT (P : Pat) (TE : List (Nat × Nat)) (p : Q × Nat) : Prop := ∃ b, b ∈ TE ∧ ∃ j, j < 49 ∧ (SE P b.1 j p.1 ∧ p.2 = min b.2 (j - 2))
theorem RT_bd (P : Pat) (TE : List (Nat × Nat)) : Bd (RT P TE) (TE.length * (49 * (1 + (P.bw + 4) * ((P.bh + 4) * P.PC)))) :=
  Bd.mem fun b _ => Bd.ex fun j _ => (SE_bd P b.1 j).inj (fun p => p.1) (fun p p' h h' e => Prod.ext e (h.2.trans h'.2.symm)) fun p h => h.1
end Jf
/-! JfG1 -/
set_option autoImplicit true
set_option Elab.async false
set_option linter.all false
set_option maxRecDepth 100000
set_option maxHeartbeats 4000000
/-! The grove: what it holds, its own defs. -/
namespace Jf
open PySem PySem.Spec PyProof.Rows L2
/-- the squares (by number) and the rows of even squares: state, the row's address, its numbers -/
structure GWd where
  rows : List (Nat × Addr × List Nat)
  cs : List Q
structure GS where
  dN : Addr
  lM : Addr
  lL : Addr
  lV : Addr
  lS : Addr
  dP : Addr
  tk : List (List Int)
  ma : List Addr
  sp : List V
  kv : List (List Key × V)
def kI (l : List Int) : List Key := l.map Sum.inl
theorem kI_V (l : List Int) : (kI l).map kV = l.map V.int := by
  unfold kI
  rw [List.map_map]
  rfl
theorem kI_inj : ∀ {l l' : List Int}, kI l = kI l' → l = l'
  | [], [], _ => rfl
  | [], _ :: _, h => by cases h
  | _ :: _, [], h => by cases h
  | a :: r, b :: r', h => by
    injection h with h1 h2
    rw [Sum.inl.inj h1, kI_inj h2]
def gfs (s : GS) : List (Str × V) := [("numbers", .ref s.dN), ("made", .ref s.lM), ("levels", .ref s.lL), ("lives", .ref s.lV), ("spans", .ref s.lS), ("plain", .ref s.dP)]
theorem gfs_numbers (s : GS) : (gfs s).lookup ("numbers" : Str) = some (.ref s.dN) := by rfl
theorem gfs_made (s : GS) : (gfs s).lookup ("made" : Str) = some (.ref s.lM) := by rfl
theorem gfs_levels (s : GS) : (gfs s).lookup ("levels" : Str) = some (.ref s.lL) := by rfl
theorem gfs_lives (s : GS) : (gfs s).lookup ("lives" : Str) = some (.ref s.lV) := by rfl
theorem gfs_spans (s : GS) : (gfs s).lookup ("spans" : Str) = some (.ref s.lS) := by rfl
theorem gfs_plain (s : GS) : (gfs s).lookup ("plain" : Str) = some (.ref s.dP) := by rfl
def ownL (w : GWd) (s : GS) : List Addr := s.dN :: s.lM :: s.lL :: s.lV :: s.lS :: s.dP :: w.rows.map (fun r => r.2.1)
def Rep (cs : List Q) : Q → List Int → Prop
  | .leaf s, l => l = [(s : Int)]
  | .node a b c d, l => ∃ ia ib ic id : Nat, l = [(ia : Int), (ib : Int), (ic : Int), (id : Int)] ∧ cs[ia]? = some a ∧ cs[ib]? = some b ∧ cs[ic]? = some c ∧ cs[id]? = some d
abbrev CG (K : PySem.W.Frag) : Addr := He.ga K "Grove"
structure GVs (K : PySem.W.Frag) (S : Q → Prop) (g : Addr) (w : GWd) (s : GS) (O H : Hp) : Prop where
  ob : ∃ dx, O g = some (.ins (CG K) dx (gfs s))
  own : ∀ a, a ∈ ownL w s → O a = none
  out : ∀ a, a ∉ ownL w s → O a = H a
  nd : (ownL w s).Nodup
  hN : H s.dN = some (.dT s.kv)
  hM : H s.lM = some (.lst (s.ma.map V.ref))
  hL : H s.lL = some (.lst (w.cs.map fun q => V.int (lev q : Nat)))
  hV : H s.lV = some (.lst (w.cs.map fun q => V.int (lives q : Nat)))
  hS : H s.lS = some (.lst s.sp)
  hP : H s.dP = some (.dK (w.rows.map fun r => ((Sum.inl (r.1 : Int) : Key), V.ref r.2.1)))
  hR : ∀ r ∈ w.rows, H r.2.1 = some (.lst (r.2.2.map fun i => V.int (i : Nat)))
  lt : s.tk.length = w.cs.length
  lm : s.ma.length = w.cs.length
  ls : s.sp.length = w.cs.length
  lk : s.kv.length = w.cs.length
  kv : ∀ l v, valV s.kv (kI l) = some v ↔ ∃ i : Nat, s.tk[i]? = some l ∧ v = .int (i : Nat)
  made : ∀ (i : Nat) l, s.tk[i]? = some l → ∃ p, s.ma[i]? = some p ∧ O p = some (.tup (l.map V.int))
  rep : ∀ (i : Nat) q, w.cs[i]? = some q → ∃ l, s.tk[i]? = some l ∧ Rep w.cs q l
  spn : ∀ (i : Nat) q v, w.cs[i]? = some q → s.sp[i]? = some v → BxV O (spanQ q) v
  cnd : w.cs.Nodup
  wfq : ∀ q ∈ w.cs, wf (lev q) q ∧ lev q ≤ 48
  inS : ∀ q ∈ w.cs, S q
  rws : ∀ r ∈ w.rows, r.1 ≤ 7 ∧ r.2.2.length ≤ 49 ∧ ∀ (k i : Nat), r.2.2[k]? = some i → w.cs[i]? = some (solid k r.1)
  rnd : (w.rows.map (·.1)).Nodup
  bd : Bd S 16777216
  sol : ∀ j s, j ≤ 48 → s ≤ 7 → S (solid j s)
def GV (K : PySem.W.Frag) (S : Q → Prop) (g : Addr) (w : GWd) (O H : Hp) : Prop := ∃ s, GVs K S g w s O H
/-- the squares of w stand in w' under their numbers -/
def ExC (w w' : GWd) : Prop := ∀ (i : Nat) q, w.cs[i]? = some q → w'.cs[i]? = some q
theorem ExC.refl (w : GWd) : ExC w w := fun _ _ h => h
theorem ExC.trans {w w1 w2 : GWd} (a : ExC w w1) (b : ExC w1 w2) : ExC w w2 := fun i q h => b i q (a i q h)
section
variable {K : PySem.W.Frag} {S : Q → Prop} {g : Addr} {w : GWd} {s : GS} {O H : Hp}
theorem GVs.sub (G : GVs K S g w s O H) {a : Addr} {o : HO} (h : O a = some o) : H a = some o := by
  have n : a ∉ ownL w s := fun m => by rw [G.own a m] at h; cases h
  rw [← G.out a n]; exact h
theorem GVs.same (G : GVs K S g w s O H) : Same O H := fun _ _ h => G.sub h
theorem GVs.fresh (G : GVs K S g w s O H) {a : Addr} (h : H a = none) : O a = none := by
  cases e : O a with
  | none => rfl
  | some o => rw [G.sub e] at h; cases h
theorem GVs.busy (G : GVs K S g w s O H) {a : Addr} (h : a ∈ ownL w s) : (∃ l, H a = some (.lst l)) ∨ (∃ l, H a = some (.dT l)) ∨ (∃ l, H a = some (.dK l)) := by
  unfold ownL at h
  simp only [List.mem_cons, List.mem_map] at h
  rcases h with rfl | rfl | rfl | rfl | rfl | rfl | ⟨r, hr, rfl⟩
  · exact .inr (.inl ⟨_, G.hN⟩)
  · exact .inl ⟨_, G.hM⟩
  · exact .inl ⟨_, G.hL⟩
  · exact .inl ⟨_, G.hV⟩
  · exact .inl ⟨_, G.hS⟩
  · exact .inr (.inr ⟨_, G.hP⟩)
  · exact .inl ⟨_, G.hR r hr⟩
theorem GVs.free (G : GVs K S g w s O H) {a : Addr} (h : H a = none) : a ∉ ownL w s := fun m => by
  rcases G.busy m with ⟨l, e⟩ | ⟨l, e⟩ | ⟨l, e⟩ <;> (rw [h] at e; cases e)
theorem GVs.tup (G : GVs K S g w s O H) {a : Addr} {xs : List V} (h : H a = some (.tup xs)) : O a = some (.tup xs) := by
  have n : a ∉ ownL w s := fun m => by rcases G.busy m with ⟨l, e⟩ | ⟨l, e⟩ | ⟨l, e⟩ <;> (rw [h] at e; cases e)
  rw [G.out a n]; exact h
theorem GVs.g_out (G : GVs K S g w s O H) : g ∉ ownL w s := fun m => by
  obtain ⟨dx, e⟩ := G.ob
  rw [G.own g m] at e; cases e
/-- the written parts change elsewhere alone -/
theorem GVs.move (G : GVs K S g w s O H) {O' H' : Hp} (hO : ∀ a, a ∉ ownL w s → O' a = H' a) (hO2 : ∀ a, a ∈ ownL w s → O' a = none) (hH : ∀ a, a ∈ ownL w s → H' a = H a)
    (hg : ∀ o, O g = some o → O' g = some o) (ht : ∀ a xs, O a = some (.tup xs) → O' a = some (.tup xs)) : GVs K S g w s O' H' := by
  have m : ∀ {a : Addr}, a ∈ ownL w s → ∀ {o}, H a = some o → H' a = some o := fun {a} ha {o} e => by rw [hH _ ha]; exact e
  have i0 : s.dN ∈ ownL w s := by simp [ownL]
  have i1 : s.lM ∈ ownL w s := by simp [ownL]
  have i2 : s.lL ∈ ownL w s := by simp [ownL]
  have i3 : s.lV ∈ ownL w s := by simp [ownL]
  have i4 : s.lS ∈ ownL w s := by simp [ownL]
  have i5 : s.dP ∈ ownL w s := by simp [ownL]
  have i6 : ∀ r ∈ w.rows, r.2.1 ∈ ownL w s := fun r hr => by
    unfold ownL
    simp only [List.mem_cons, List.mem_map]
    exact .inr (.inr (.inr (.inr (.inr (.inr ⟨r, hr, rfl⟩)))))
  obtain ⟨dx, e⟩ := G.ob
  exact { G with
    ob := ⟨dx, hg _ e⟩
    own := hO2
    out := hO
    hN := m i0 G.hN
    hM := m i1 G.hM
    hL := m i2 G.hL
    hV := m i3 G.hV
    hS := m i4 G.hS
    hP := m i5 G.hP
    hR := fun r hr => m (i6 r hr) (G.hR r hr)
    made := fun i l h => let ⟨p, h1, h2⟩ := G.made i l h; ⟨p, h1, ht _ _ h2⟩
    spn := fun i q v h1 h2 => by
      have z := G.spn i q v h1 h2
      match spanQ q, z with
      | none, z => exact z
      | some (a, b, c, d), ⟨p, z1, z2⟩ => exact ⟨p, z1, ht _ _ z2⟩ }
/-- behind something that leaves all as it was -/
theorem GVs.after (G : GVs K S g w s O H) {H' : Hp} (e : Same H H') : ∃ O', GVs K S g w s O' H' ∧ Same O O' ∧ (∀ a o, H a = none → H' a = some o → O' a = some o) := by
  classical
  refine ⟨fun a => if a ∈ ownL w s then none else H' a, G.move (fun a n => if_neg n) (fun a m => if_pos m) (fun a m => ?_) (fun o h => ?_) (fun a xs h => ?_), fun a o h => ?_, fun a o h h' => ?_⟩
  · rcases G.busy m with ⟨l, q⟩ | ⟨l, q⟩ | ⟨l, q⟩ <;> rw [e _ _ q, q]
  · rw [if_neg G.g_out]
    exact e _ _ (G.sub h)
  · have n : a ∉ ownL w s := fun m => by rw [G.own a m] at h; cases h
    rw [if_neg n]
    exact e _ _ (G.sub h)
  · have n : a ∉ ownL w s := fun m => by rw [G.own a m] at h; cases h
    show (if a ∈ ownL w s then none else H' a) = some o
    rw [if_neg n]
    exact e _ _ (G.sub h)
  · show (if a ∈ ownL w s then none else H' a) = some o
    rw [if_neg (G.free h)]
    exact h'
/-- a new object -/
theorem GVs.new (G : GVs K S g w s O H) {p : Addr} (hp : H p = none) (o : HO) : GVs K S g w s (upd O p o) (upd H p o) := by
  have n := G.free hp
  refine G.move (fun a m => ?_) (fun a m => ?_) (fun a m => ?_) (fun u h => ?_) (fun a xs h => ?_)
  · by_cases e : a = p
    · rw [e, upd_same, upd_same]
    · rw [upd_ne e, upd_ne e]; exact G.out a m
  · rw [upd_ne (show a ≠ p from fun e => n (e ▸ m))]; exact G.own a m
  · rw [upd_ne (show a ≠ p from fun e => n (e ▸ m))]
  · rw [upd_ne (ne_of_none h (G.fresh hp))]; exact h
  · rw [upd_ne (ne_of_none h (G.fresh hp))]; exact h
/-- an object that is not the grove's is written -/
theorem GVs.mut (G : GVs K S g w s O H) {p : Addr} {u : HO} (hp : O p = some u) (hg : p ≠ g) (hu : ∀ xs, u ≠ .tup xs) (o : HO) : GVs K S g w s (upd O p o) (upd H p o) := by
  have n : p ∉ ownL w s := fun m => by rw [G.own p m] at hp; cases hp
  refine G.move (fun a m => ?_) (fun a m => ?_) (fun a m => ?_) (fun v h => ?_) (fun a xs h => ?_)
  · by_cases e : a = p
    · rw [e, upd_same, upd_same]
    · rw [upd_ne e, upd_ne e]; exact G.out a m
  · rw [upd_ne (show a ≠ p from fun e => n (e ▸ m))]; exact G.own a m
  · rw [upd_ne (show a ≠ p from fun e => n (e ▸ m))]
  · rw [upd_ne (Ne.symm hg)]; exact h
  · have e : a ≠ p := fun e => by
      rw [e, hp] at h
      exact hu xs (Option.some.inj h)
    rw [upd_ne e]; exact h
theorem GVs.len (G : GVs K S g w s O H) : w.cs.length ≤ 16777216 := G.bd _ G.cnd G.inS
theorem Rep.mono {cs cs' : List Q} (h : ∀ (i : Nat) q, cs[i]? = some q → cs'[i]? = some q) {q : Q} {l : List Int} (r : Rep cs q l) : Rep cs' q l := by
  cases q with
  | leaf s => exact r
  | node a b c d =>
    obtain ⟨ia, ib, ic, id, e, h1, h2, h3, h4⟩ := r
    exact ⟨ia, ib, ic, id, e, h _ _ h1, h _ _ h2, h _ _ h3, h _ _ h4⟩
theorem Rep.fn {cs : List Q} {q q' : Q} {l : List Int} (r : Rep cs q l) (r' : Rep cs q' l) : q = q' := by
  cases q with
  | leaf s =>
    cases q' with
    | leaf s' =>
      have e : [(s : Int)] = [(s' : Int)] := r.symm.trans r'
      injection e with e _
      rw [Int.ofNat.inj e]
    | node a b c d =>
      obtain ⟨_, _, _, _, e, _⟩ := r'
      rw [show l = [(s : Int)] from r] at e
      cases e
  | node a b c d =>
    obtain ⟨ia, ib, ic, id, e, h1, h2, h3, h4⟩ := r
    cases q' with
    | leaf s' =>
      rw [show l = [(s' : Int)] from r'] at e
      cases e
    | node a' b' c' d' =>
      obtain ⟨ia', ib', ic', id', e', h1', h2', h3', h4'⟩ := r'
      rw [e] at e'
      injection e' with e1 e'
      injection e' with e2 e'
      injection e' with e3 e'
      injection e' with e4 _
      rw [← Int.ofNat.inj e1] at h1'
      rw [← Int.ofNat.inj e2] at h2'
      rw [← Int.ofNat.inj e3] at h3'
      rw [← Int.ofNat.inj e4] at h4'
      rw [h1] at h1'; rw [h2] at h2'; rw [h3] at h3'; rw [h4] at h4'
      rw [Option.some.inj h1', Option.some.inj h2', Option.some.inj h3', Option.some.inj h4']
/-- the number under which a key stands tells the square -/
theorem GVs.found (G : GVs K S g w s O H) {q : Q} {l : List Int} {v : V} (r : Rep w.cs q l) (h : valV s.kv (kI l) = some v) : ∃ i : Nat, v = .int i ∧ w.cs[i]? = some q := by
  obtain ⟨i, hi, rfl⟩ := (G.kv l v).mp h
  have hlt : i < w.cs.length := by rw [← G.lt]; exact (List.getElem?_eq_some_iff.mp hi).1
  obtain ⟨l', h1, h2⟩ := G.rep i w.cs[i] (List.getElem?_eq_getElem hlt)
  rw [hi] at h1
  cases h1
  exact ⟨i, rfl, by rw [List.getElem?_eq_getElem hlt, h2.fn r]⟩
theorem nodup_at {α : Type} {l : List α} (hN : l.Nodup) {i j : Nat} {x : α} (a : l[i]? = some x) (b : l[j]? = some x) : i = j := nd_ix hN a b
/-- where the key is not known, the square is new -/
theorem GVs.unfound (G : GVs K S g w s O H) {q : Q} {l : List Int} (r : Rep w.cs q l) (h : valV s.kv (kI l) = none) : q ∉ w.cs := fun m => by
  obtain ⟨i, hi⟩ := List.getElem?_of_mem m
  obtain ⟨l', h1, h2⟩ := G.rep i q hi
  have e : l' = l := by
    cases q with
    | leaf s => exact (show l' = [(s : Int)] from h2).trans (show l = [(s : Int)] from r).symm
    | node a b c d =>
      obtain ⟨ia, ib, ic, id, e, z1, z2, z3, z4⟩ := r
      obtain ⟨ia', ib', ic', id', e', z1', z2', z3', z4'⟩ := h2
      rw [e, e', nodup_at G.cnd z1 z1', nodup_at G.cnd z2 z2', nodup_at G.cnd z3 z3', nodup_at G.cnd z4 z4']
  have z := (G.kv l (.int i)).mpr ⟨i, e ▸ h1, rfl⟩
  rw [h] at z
  cases z
end
end Jf
/-! JfG2 -/
set_option autoImplicit true
namespace Jf
open PySem PySem.Spec PyProof.Rows L2
section
variable {K : PySem.W.Frag} {S : Q → Prop} {g : Addr} {w : GWd} {s : GS} {O H : Hp}
/-- the grove's six parts and its rows stand apart -/
structure Apart (w : GWd) (s : GS) : Prop where
  n01 : s.dN ≠ s.lM
  n02 : s.dN ≠ s.lL
  n03 : s.dN ≠ s.lV
  n04 : s.dN ≠ s.lS
  n05 : s.dN ≠ s.dP
  n12 : s.lM ≠ s.lL
  n13 : s.lM ≠ s.lV
  n14 : s.lM ≠ s.lS
  n15 : s.lM ≠ s.dP
  n23 : s.lL ≠ s.lV
  n24 : s.lL ≠ s.lS
  n25 : s.lL ≠ s.dP
  n34 : s.lV ≠ s.lS
  n35 : s.lV ≠ s.dP
  n45 : s.lS ≠ s.dP
  r : ∀ r ∈ w.rows, r.2.1 ≠ s.dN ∧ r.2.1 ≠ s.lM ∧ r.2.1 ≠ s.lL ∧ r.2.1 ≠ s.lV ∧ r.2.1 ≠ s.lS ∧ r.2.1 ≠ s.dP
  rr : (w.rows.map (fun r => r.2.1)).Nodup
theorem GVs.apart (G : GVs K S g w s O H) : Apart w s := by
  have n := G.nd
  unfold ownL at n
  simp only [List.nodup_cons, List.mem_cons, not_or] at n
  obtain ⟨⟨a1, a2, a3, a4, a5, a6⟩, ⟨b2, b3, b4, b5, b6⟩, ⟨c3, c4, c5, c6⟩, ⟨d4, d5, d6⟩, ⟨e5, e6⟩, f6, z⟩ := n
  have m : ∀ r ∈ w.rows, r.2.1 ∈ w.rows.map (fun r => r.2.1) := fun r hr => List.mem_map.mpr ⟨r, hr, rfl⟩
  exact ⟨a1, a2, a3, a4, a5, b2, b3, b4, b5, c3, c4, c5, d4, d5, e5, fun r hr => ⟨fun e => a6 (e ▸ m r hr), fun e => b6 (e ▸ m r hr), fun e => c6 (e ▸ m r hr), fun e => d6 (e ▸ m r hr), fun e => e6 (e ▸ m r hr), fun e => f6 (e ▸ m r hr)⟩, z⟩
/-- one more square -/
theorem GVs.grow (G : GVs K S g w s O H) {p : Addr} {l : List Int} {q : Q} {v : V} (hp : O p = some (.tup (l.map V.int))) (hn : valV s.kv (kI l) = none) (r : Rep w.cs q l) (hv : BxV O (spanQ q) v) (hS : S q) (hw : wf (lev q) q ∧ lev q ≤ 48) :
    GVs K S g ⟨w.rows, w.cs ++ [q]⟩ { s with tk := s.tk ++ [l], ma := s.ma ++ [p], sp := s.sp ++ [v], kv := s.kv ++ [(kI l, .int (w.cs.length : Nat))] } O
      (upd (upd (upd (upd (upd H s.dN (.dT (s.kv ++ [(kI l, .int (w.cs.length : Nat))]))) s.lM (.lst (s.ma.map V.ref ++ [.ref p]))) s.lL (.lst (w.cs.map (fun q => V.int (lev q : Nat)) ++ [.int (lev q : Nat)]))) s.lV (.lst (w.cs.map (fun q => V.int (lives q : Nat)) ++ [.int (lives q : Nat)])))
        s.lS (.lst (s.sp ++ [v]))) := by
  have A := G.apart
  have nq := G.unfound r hn
  have snoc : ∀ {α : Type} {l : List α} {x y : α} {i : Nat}, (l ++ [x])[i]? = some y → (l[i]? = some y) ∨ (i = l.length ∧ y = x) := fun {α l x y i} h => by
    rw [List.getElem?_append] at h
    by_cases hi : i < l.length
    · rw [if_pos hi] at h; exact .inl h
    · rw [if_neg hi] at h
      have e : i - l.length = 0 := by
        have := (List.getElem?_eq_some_iff.mp h).1
        simp at this
        omega
      rw [e] at h
      exact .inr ⟨by omega, (Option.some.inj h).symm⟩
  have old : ∀ {α : Type} {l : List α} {x y : α} {i : Nat}, l[i]? = some y → (l ++ [x])[i]? = some y := fun {α l x y i} h => by
    rw [List.getElem?_append_left (List.getElem?_eq_some_iff.mp h).1]; exact h
  have new : ∀ {α : Type} {l : List α} {x : α} {i : Nat}, i = l.length → (l ++ [x])[i]? = some x := fun {α l x i} h => by
    rw [h, List.getElem?_append_right (Nat.le_refl _), Nat.sub_self]; rfl
  refine { G with
    ob := G.ob, own := G.own, nd := G.nd, out := fun a n => ?_, hN := ?_, hM := ?_, hL := ?_, hV := ?_, hS := ?_, hP := ?_, hR := fun r hr => ?_, lt := ?_, lm := ?_, ls := ?_, lk := ?_, kv := fun l' v' => ?_, made := fun i l' h => ?_, rep := fun i q' h => ?_, spn := fun i q' v' h h' => ?_, cnd := ?_, wfq := fun q' m => ?_, inS := fun q' m => ?_, rws := fun r hr => ?_ }
  · have n' : a ∉ ownL w s := n
    have z := n'
    unfold ownL at z
    simp only [List.mem_cons, not_or] at z
    rw [upd_ne z.2.2.2.2.1, upd_ne z.2.2.2.1, upd_ne z.2.2.1, upd_ne z.2.1, upd_ne z.1]
    exact G.out a n'
  · rw [upd_ne A.n04, upd_ne A.n03, upd_ne A.n02, upd_ne A.n01, upd_same]
  · rw [upd_ne A.n14, upd_ne A.n13, upd_ne A.n12, upd_same, List.map_append]; rfl
  · rw [upd_ne A.n24, upd_ne A.n23, upd_same, List.map_append]; rfl
  · rw [upd_ne A.n34, upd_same, List.map_append]; rfl
  · rw [upd_same]
  · rw [upd_ne (Ne.symm A.n45), upd_ne (Ne.symm A.n35), upd_ne (Ne.symm A.n25), upd_ne (Ne.symm A.n15), upd_ne (Ne.symm A.n05)]; exact G.hP
  · obtain ⟨a0, a1, a2, a3, a4, a5⟩ := A.r r hr
    rw [upd_ne a4, upd_ne a3, upd_ne a2, upd_ne a1, upd_ne a0]; exact G.hR r hr
  · show (s.tk ++ [l]).length = (w.cs ++ [q]).length
    rw [List.length_append, List.length_append, G.lt]; rfl
  · show (s.ma ++ [p]).length = (w.cs ++ [q]).length
    rw [List.length_append, List.length_append, G.lm]; rfl
  · show (s.sp ++ [v]).length = (w.cs ++ [q]).length
    rw [List.length_append, List.length_append, G.ls]; rfl
  · show (s.kv ++ [_]).length = (w.cs ++ [q]).length
    rw [List.length_append, List.length_append, G.lk]; rfl
  · show valV (s.kv ++ [(kI l, .int (w.cs.length : Nat))]) (kI l') = some v' ↔ ∃ i : Nat, (s.tk ++ [l])[i]? = some l' ∧ v' = .int (i : Nat)
    rw [valV_snoc _ _ _ _ hn]
    by_cases e : l' = l
    · subst e
      rw [if_pos rfl]
      constructor
      · intro h
        exact ⟨w.cs.length, new G.lt.symm, (Option.some.inj h).symm⟩
      · rintro ⟨i, h, rfl⟩
        rcases snoc h with h | ⟨h, _⟩
        · have z := (G.kv l' (.int i)).mpr ⟨i, h, rfl⟩
          rw [hn] at z; cases z
        · rw [h, G.lt]
    · rw [if_neg (fun z => e (kI_inj z)), G.kv]
      constructor
      · rintro ⟨i, h, e'⟩
        exact ⟨i, old h, e'⟩
      · rintro ⟨i, h, e'⟩
        rcases snoc h with h | ⟨_, h⟩
        · exact ⟨i, h, e'⟩
        · exact (e h).elim
  · rcases snoc h with h | ⟨hh, rfl⟩
    · obtain ⟨p', h1, h2⟩ := G.made i l' h
      exact ⟨p', old h1, h2⟩
    · exact ⟨p, new (by rw [hh, G.lt, G.lm]), hp⟩
  · rcases snoc h with h | ⟨hh, rfl⟩
    · obtain ⟨l', h1, h2⟩ := G.rep i q' h
      exact ⟨l', old h1, h2.mono fun i q h => old h⟩
    · exact ⟨l, new (by rw [hh, G.lt]), r.mono fun i q h => old h⟩
  · rcases snoc h with h | ⟨hh, rfl⟩
    · rcases snoc h' with h' | ⟨hh', _⟩
      · exact G.spn i q' v' h h'
      · have := (List.getElem?_eq_some_iff.mp h).1
        rw [hh', G.ls] at this
        omega
    · rcases snoc h' with h' | ⟨_, rfl⟩
      · have := (List.getElem?_eq_some_iff.mp h').1
        rw [hh, G.ls] at this
        omega
      · exact hv
  · exact nd_snoc G.cnd nq
  · rcases List.mem_append.mp m with m | m
    · exact G.wfq q' m
    · rw [List.mem_singleton.mp m]; exact hw
  · rcases List.mem_append.mp m with m | m
    · exact G.inS q' m
    · rw [List.mem_singleton.mp m]; exact hS
  · obtain ⟨a, b, c⟩ := G.rws r hr
    exact ⟨a, b, fun k i h => old (c k i h)⟩
theorem GVs.room (G : GVs K S g w s O H) {l : List Int} {q : Q} (hn : valV s.kv (kI l) = none) (r : Rep w.cs q l) (hS : S q) : w.cs.length < sizeLine := by
  have z := G.bd (w.cs ++ [q]) (nd_snoc G.cnd (G.unfound r hn)) fun q' m => by
    rcases List.mem_append.mp m with m | m
    · exact G.inS q' m
    · rw [List.mem_singleton.mp m]; exact hS
  rw [List.length_append, List.length_singleton] at z
  have e : sizeLine = 16777216 := sizeLine_eq
  omega
end
section
variable {P : Program} {w : World} {K : PySem.W.Frag} {mg : Str → Option Value} {base : Heap} {S : Q → Prop}
/-- kept: a new square under the next number -/
def spKept (K : PySem.W.Frag) (S : Q → Prop) : Sp := fun vs H Qk _ => ∃ (g : Addr) (w : GWd) (s : GS) (O : Hp) (p : Addr) (l : List Int) (q : Q) (v : V), vs = [.ref g, .ref p, .int (lev q : Nat), .int (lives q : Nat), v] ∧ GVs K S g w s O H ∧
  O p = some (.tup (l.map V.int)) ∧ valV s.kv (kI l) = none ∧ Rep w.cs q l ∧ BxV O (spanQ q) v ∧ S q ∧ (wf (lev q) q ∧ lev q ≤ 48) ∧ ∀ H', GV K S g ⟨w.rows, w.cs ++ [q]⟩ O H' → Qk (.int (w.cs.length : Nat)) H'
theorem sc_Grove_kept : FnScope [("self" : Str), ("made" : Str), ("level" : Str), ("lives" : Str), ("span" : Str), ("number" : Str)] ["self", "made", "level", "lives", "span"] (defScope s_Grove_kept) := ⟨rfl, rfl, rfl, by decide +kernel, rfl, by decide +kernel, by decide +kernel⟩
theorem ok_Grove_kept (T : Txt K mg) : Ok P w K mg base ("Grove", some "kept") ["self", "made", "level", "lives", "span"] 1 (spKept K S) := by
  refine Ok.of T.d_Grove_kept sc_Grove_kept (fun vs H Q E h => ?_) (fun cdv A outer s H vs Q E hr h => ?_)
  · obtain ⟨g, w, s, O, p, l, q, v, rfl, _⟩ := h
    rfl
  obtain ⟨g, w, s, O, p, l, q, v, rfl, G, hp, hn, r, hv, hS, hw, k⟩ := h
  have hu := hu_of hr
  have A := G.apart
  have hl := G.room hn r hS
  obtain ⟨dx, hg⟩ := G.ob
  have hg0 := G.sub hg
  have hp0 := G.sub hp
  have go := G.g_out
  unfold ownL at go
  simp only [List.mem_cons, not_or] at go
  obtain ⟨g0, g1, g2, g3, g4, g5, _⟩ := go
  refine ⟨_, (pss_cons (ps_set (i := 5) sc_Grove_kept.nd rfl (Or.inl rfl) (pe_callB call_len_seq (by rfl) T.f_len (by decide +kernel) (pa_cons (pe_fld (pv 0) rfl) pa_nil)))
      (pss_cons (ps_dput hu (pe_fld (pv 0) rfl) (pv 1) (pv 5) rfl)
      (pss_cons (ps_expr (pe_bm PySem.F.plainAttrs_list PySem.F.slot_list_append PySem.F.type_list_append mt_append (pe_fld (pv 0) rfl) (pa_cons (pv 1) pa_nil)))
      (pss_cons (ps_expr (pe_bm PySem.F.plainAttrs_list PySem.F.slot_list_append PySem.F.type_list_append mt_append (pe_fld (pv 0) rfl) (pa_cons (pv 2) pa_nil)))
      (pss_cons (ps_expr (pe_bm PySem.F.plainAttrs_list PySem.F.slot_list_append PySem.F.type_list_append mt_append (pe_fld (pv 0) rfl) (pa_cons (pv 3) pa_nil)))
      (pss_cons (ps_expr (pe_bm PySem.F.plainAttrs_list PySem.F.slot_list_append PySem.F.type_list_append mt_append (pe_fld (pv 0) rfl) (pa_cons (pv 4) pa_nil)))
      (pss_one (ps_ret (pv 5))))))))), ?_⟩
  -- number = len(self.made); self.numbers[made] = number
  refine ⟨_, rfl, g, _, dx, _, _, rfl, hg0, T.c_Grove, T.n_Grove_made, gfs_made s, _, _, rfl, .inl (SqL.of G.hM), ?_⟩
  rw [List.length_map, G.lm]
  refine ⟨_, rfl, _, rfl, g, _, dx, _, _, rfl, hg0, T.c_Grove, T.n_Grove_numbers, gfs_numbers s, _, rfl, _, _, rfl, DPut.t (k := kI l) G.hN (by rw [kI_V]; exact hp0) (by rw [G.lk]; exact hl), ?_⟩
  rw [putK_new _ hn]
  -- the four lists
  refine ⟨_, rfl, g, _, dx, _, _, rfl, (by rw [upd_ne g0]; exact hg0), T.c_Grove, T.n_Grove_made, gfs_made s, .inl ⟨rfl, _, SqL.of (by rw [upd_ne (Ne.symm A.n01)]; exact G.hM)⟩, _, rfl, _, _, _, rfl, rfl, (by rw [upd_ne (Ne.symm A.n01)]; exact G.hM), (by rw [List.length_map, G.lm]; exact hl), ?_⟩
  refine ⟨_, rfl, g, _, dx, _, _, rfl, (by rw [upd_ne g1, upd_ne g0]; exact hg0), T.c_Grove, T.n_Grove_levels, gfs_levels s, .inl ⟨rfl, _, SqL.of (by rw [upd_ne (Ne.symm A.n12), upd_ne (Ne.symm A.n02)]; exact G.hL)⟩, _, rfl, _, _, _, rfl, rfl, (by rw [upd_ne (Ne.symm A.n12), upd_ne (Ne.symm A.n02)]; exact G.hL), (by rw [List.length_map]; exact hl), ?_⟩
  refine ⟨_, rfl, g, _, dx, _, _, rfl, (by rw [upd_ne g2, upd_ne g1, upd_ne g0]; exact hg0), T.c_Grove, T.n_Grove_lives, gfs_lives s, .inl ⟨rfl, _, SqL.of (by rw [upd_ne (Ne.symm A.n23), upd_ne (Ne.symm A.n13), upd_ne (Ne.symm A.n03)]; exact G.hV)⟩, _, rfl, _, _, _, rfl, rfl, (by rw [upd_ne (Ne.symm A.n23), upd_ne (Ne.symm A.n13), upd_ne (Ne.symm A.n03)]; exact G.hV), (by rw [List.length_map]; exact hl), ?_⟩
  refine ⟨_, rfl, g, _, dx, _, _, rfl, (by rw [upd_ne g3, upd_ne g2, upd_ne g1, upd_ne g0]; exact hg0), T.c_Grove, T.n_Grove_spans, gfs_spans s, .inl ⟨rfl, _, SqL.of (by rw [upd_ne (Ne.symm A.n34), upd_ne (Ne.symm A.n24), upd_ne (Ne.symm A.n14), upd_ne (Ne.symm A.n04)]; exact G.hS)⟩, _, rfl, _, _, _, rfl, rfl, (by rw [upd_ne (Ne.symm A.n34), upd_ne (Ne.symm A.n24), upd_ne (Ne.symm A.n14), upd_ne (Ne.symm A.n04)]; exact G.hS), (by rw [G.ls]; exact hl), ?_⟩
  exact ⟨_, rfl, k _ ⟨_, G.grow hp hn r hv hS hw⟩⟩
end
end Jf
/-! JfG3 -/
set_option autoImplicit true
namespace Jf
open PySem PySem.Spec PyProof.Rows L2
theorem shl1 (k : Nat) : (1 : Int) * 2 ^ (((k : Nat) : Int).toNat) = p2 k := by
  rw [Int.one_mul, Int.toNat_natCast]
theorem shlC {k : Nat} (h : k ≤ 1000) : CPow 1 (k : Int) := ⟨by omega, by omega, by decide⟩
section
variable {K : PySem.W.Frag} {S : Q → Prop} {g : Addr} {w : GWd} {s : GS} {O H : Hp}
theorem GVs.bx (G : GVs K S g w s O H) {o : Option Bx} {v : V} (h : BxV H o v) : BxV O o v := by
  match o, h with
  | none, h => exact h
  | some (a, b, c, d), ⟨p, h1, h2⟩ => exact ⟨p, h1, G.tup h2⟩
theorem GVs.lev_at (G : GVs K S g w s O H) {i : Nat} {q : Q} (h : w.cs[i]? = some q) : atI (w.cs.map fun q => V.int (lev q : Nat)) (i : Int) = some (.int (lev q : Nat)) := atI_nat (by rw [List.getElem?_map, h]; rfl)
theorem GVs.lives_at (G : GVs K S g w s O H) {i : Nat} {q : Q} (h : w.cs[i]? = some q) : atI (w.cs.map fun q => V.int (lives q : Nat)) (i : Int) = some (.int (lives q : Nat)) := atI_nat (by rw [List.getElem?_map, h]; rfl)
theorem GVs.span_at (G : GVs K S g w s O H) {i : Nat} {q : Q} (h : w.cs[i]? = some q) : ∃ v, s.sp[i]? = some v ∧ BxV O (spanQ q) v := by
  have hl : i < s.sp.length := by rw [G.ls]; exact (List.getElem?_eq_some_iff.mp h).1
  exact ⟨_, List.getElem?_eq_getElem hl, G.spn i q _ h (List.getElem?_eq_getElem hl)⟩
theorem GVs.made_at (G : GVs K S g w s O H) {i : Nat} {q : Q} (h : w.cs[i]? = some q) : ∃ l p, atI (s.ma.map V.ref) (i : Int) = some (.ref p) ∧ O p = some (.tup (l.map V.int)) ∧ Rep w.cs q l := by
  obtain ⟨l, h1, h2⟩ := G.rep i q h
  obtain ⟨p, h3, h4⟩ := G.made i l h1
  exact ⟨l, p, atI_nat (by rw [List.getElem?_map, h3]; rfl), h4, h2⟩
theorem GVs.id_lt (G : GVs K S g w s O H) {i : Nat} {q : Q} (h : w.cs[i]? = some q) : i < 16777216 := Nat.lt_of_lt_of_le (List.getElem?_eq_some_iff.mp h).1 G.len
theorem GVs.lev_le (G : GVs K S g w s O H) {i : Nat} {q : Q} (h : w.cs[i]? = some q) : lev q ≤ 48 := (G.wfq q (List.mem_of_getElem? h)).2
theorem GVs.wf_at (G : GVs K S g w s O H) {i : Nat} {q : Q} (h : w.cs[i]? = some q) : wf (lev q) q := (G.wfq q (List.mem_of_getElem? h)).1
end
section
variable {P : Program} {w : World} {K : PySem.W.Frag} {mg : Str → Option Value} {base : Heap} {S : Q → Prop}
/-- a square under a number comes back; the grove may have grown, its rows are the same -/
def spCell (K : PySem.W.Frag) (S : Q → Prop) : Sp := fun vs H Qk _ => ∃ (g : Addr) (w : GWd) (O : Hp) (s : Nat), vs = [.ref g, .int (s : Nat)] ∧ GV K S g w O H ∧ s ≤ 7 ∧
  ∀ (i : Nat) (w' : GWd) (O' H' : Hp), GV K S g w' O' H' → w'.rows = w.rows → ExC w w' → Same O O' → w'.cs[i]? = some (.leaf s) → Qk (.int (i : Nat)) H'
theorem sc_Grove_cell : FnScope [("self" : Str), ("state" : Str), ("made" : Str)] ["self", "state"] (defScope s_Grove_cell) := ⟨rfl, rfl, rfl, by decide +kernel, rfl, by decide +kernel, by decide +kernel⟩
theorem ok_Grove_cell (T : Txt K mg) : Ok P w K mg base ("Grove", some "cell") ["self", "state"] 2 (spCell K S) := by
  obtain ⟨fd_Grove_kept, G_Grove_kept, b_Grove_kept, k_Grove_kept⟩ := ok_Grove_kept (P := P) (w := w) (base := base) (S := S) T
  refine Ok.of T.d_Grove_cell sc_Grove_cell (fun vs H Q E h => ?_) (fun cdv A outer s H vs Q E hr h => ?_)
  · obtain ⟨g, w, O, s, rfl, _⟩ := h
    rfl
  obtain ⟨g, w, O, st, rfl, ⟨s, G⟩, h7, k⟩ := h
  have hu := hu_of hr
  refine ⟨_, (pss_cons (ps_set (i := 2) sc_Grove_cell.nd rfl (Or.inl rfl) (pe_tup (pa_cons (pv 1) pa_nil)))
      (pss_cons (ps_if (pt_cmp (pc_din hu (pv 2) (pe_fld (pv 0) rfl))) (pss_one (ps_ret (pe_dget hu (pe_fld (pv 0) rfl) (pv 2) (fun _ _ => rfl)))) pss_nil)
      (pss_cons (ps_if (pt_cmpR op_eq (pv 1) pe_int (nomark _)) (pss_one (ps_ret (pe_meth (pv 0) T.c_Grove T.m_Grove_kept G_Grove_kept (hr.mono (by omega)) b_Grove_kept .nil pass0 (pa_cons (pv 2) (pa_cons pe_int (pa_cons pe_int (pa_cons pe_non pa_nil))))))) pss_nil)
      (pss_one (ps_ret (pe_meth (pv 0) T.c_Grove T.m_Grove_kept G_Grove_kept (hr.mono (by omega)) b_Grove_kept .nil pass0 (pa_cons (pv 2) (pa_cons pe_int (pa_cons pe_int (pa_cons (pe_tup (pa_cons pe_int (pa_cons pe_int (pa_cons pe_int (pa_cons pe_int pa_nil))))) pa_nil)))))))))), ?_⟩
  refine ⟨_, rfl, (by show 1 ≤ sizeLine; decide), fun p hp => ?_⟩
  have G1 := G.new hp (.tup [.int (st : Nat)])
  have hp1 : upd O p (.tup [.int (st : Nat)]) p = some (.tup ([(st : Int)].map V.int)) := upd_same
  have s1 : Same O (upd O p (.tup [.int (st : Nat)])) := same_new (G.fresh hp) _
  obtain ⟨dx, hg⟩ := G1.ob
  have r : Rep w.cs (.leaf st) [(st : Int)] := rfl
  refine ⟨_, rfl, _, rfl, g, _, dx, _, _, rfl, G1.sub hg, T.c_Grove, T.n_Grove_numbers, gfs_numbers s, _, _, rfl, DGet.t (k := kI [(st : Int)]) G1.hN (by rw [kI_V]; exact G1.sub hp1), _, rfl, ?_⟩
  cases e : valV s.kv (kI [(st : Int)]) with
  | some v =>
    refine iteT ?_
    obtain ⟨i, rfl, hi⟩ := G1.found r e
    refine ⟨_, rfl, g, _, dx, _, _, rfl, G1.sub hg, T.c_Grove, T.n_Grove_numbers, gfs_numbers s, _, rfl, _, _, rfl, by rw [← e]; exact DGet.t (k := kI [(st : Int)]) G1.hN (by rw [kI_V]; exact G1.sub hp1), ?_⟩
    exact k i w _ _ ⟨s, G1⟩ rfl (ExC.refl w) s1 hi
  | none =>
    refine iteF ?_
    have hS := G.sol 0 st (by omega) h7
    have fin : ∀ H', GV K S g ⟨w.rows, w.cs ++ [.leaf st]⟩ (upd O p (.tup [.int (st : Nat)])) H' → Q (.int (w.cs.length : Nat)) H' := fun H' G' =>
      k w.cs.length _ _ _ G' rfl (fun i q h => by show (w.cs ++ [.leaf st])[i]? = some q; rw [List.getElem?_append_left (List.getElem?_eq_some_iff.mp h).1]; exact h) s1
        (by show (w.cs ++ [.leaf st])[w.cs.length]? = _; rw [List.getElem?_append_right (Nat.le_refl _), Nat.sub_self]; rfl)
    refine ⟨_, rfl, rfl, _, rfl, ite2 (fun c => ?_) (fun c => ?_)⟩
    · have z : (V.int ((st : Nat) : Int)) = V.int 0 := of_decide_eq_true c
      have z0 : st = 0 := by injection z with z; omega
      subst z0
      exact ⟨_, rfl, g, dx, _, rfl, G1.sub hg, by rfl, _, rfl, g, w, s, _, p, [((0 : Nat) : Int)], .leaf 0, .non, rfl, G1, hp1, e, r, rfl, hS, ⟨True.intro, by show 0 ≤ 48; omega⟩, fin⟩
    · have z : ¬ (V.int ((st : Nat) : Int)) = V.int 0 := of_decide_eq_false (Bool.eq_false_iff.mpr c)
      have z0 : st ≠ 0 := fun e => z (by rw [e]; rfl)
      refine ⟨_, rfl, g, dx, _, rfl, G1.sub hg, by rfl, _, rfl, (by show 4 ≤ sizeLine; decide), fun u hu' => ?_⟩
      have G2 := G1.new hu' (.tup [.int 0, .int 0, .int 1, .int 1])
      have nu : p ≠ u := ne_of_none (G1.sub hp1) hu'
      have el : lives (.leaf st) = 1 := if_neg z0
      have es : spanQ (.leaf st) = some (0, 0, 1, 1) := if_neg z0
      refine ⟨g, w, s, _, p, [(st : Int)], .leaf st, .ref u, by rw [el]; rfl, G2, by rw [upd_ne nu]; exact hp1, e, r, by rw [es]; exact ⟨u, rfl, upd_same⟩, hS, ⟨True.intro, by show 0 ≤ 48; omega⟩, fun H' G' => ?_⟩
      exact k w.cs.length _ _ _ G' rfl (fun i q h => by show (w.cs ++ [.leaf st])[i]? = some q; rw [List.getElem?_append_left (List.getElem?_eq_some_iff.mp h).1]; exact h) (s1.trans (same_new (G1.fresh hu') _))
        (by show (w.cs ++ [.leaf st])[w.cs.length]? = _; rw [List.getElem?_append_right (Nat.le_refl _), Nat.sub_self]; rfl)
/-- four quarters of one level -/
def spKnit (K : PySem.W.Frag) (S : Q → Prop) : Sp := fun vs H Qk _ => ∃ (g : Addr) (w : GWd) (O : Hp) (a b c d : Nat) (qa qb qc qd : Q), vs = [.ref g, .int (a : Nat), .int (b : Nat), .int (c : Nat), .int (d : Nat)] ∧ GV K S g w O H ∧
  w.cs[a]? = some qa ∧ w.cs[b]? = some qb ∧ w.cs[c]? = some qc ∧ w.cs[d]? = some qd ∧ wf (lev qa) qb ∧ wf (lev qa) qc ∧ wf (lev qa) qd ∧ lev qa ≤ 47 ∧ S (.node qa qb qc qd) ∧
  ∀ (i : Nat) (w' : GWd) (O' H' : Hp), GV K S g w' O' H' → w'.rows = w.rows → ExC w w' → Same O O' → w'.cs[i]? = some (.node qa qb qc qd) → Qk (.int (i : Nat)) H'
theorem sc_Grove_knit : FnScope [("self" : Str), ("a" : Str), ("b" : Str), ("c" : Str), ("d" : Str), ("made" : Str), ("level" : Str), ("lives" : Str), ("span" : Str), ("one" : Str)] ["self", "a", "b", "c", "d"] (defScope s_Grove_knit) := ⟨rfl, rfl, rfl, by decide +kernel, rfl, by decide +kernel, by decide +kernel⟩
theorem ok_Grove_knit (T : Txt K mg) : Ok P w K mg base ("Grove", some "knit") ["self", "a", "b", "c", "d"] 3 (spKnit K S) := by
  obtain ⟨fd_Grove_kept, G_Grove_kept, b_Grove_kept, k_Grove_kept⟩ := ok_Grove_kept (P := P) (w := w) (base := base) (S := S) T
  obtain ⟨fd_round_four, G_round_four, b_round_four, k_round_four⟩ := ok_round_four (P := P) (w := w) (base := base) T
  refine Ok.of T.d_Grove_knit sc_Grove_knit (fun vs H Q E h => ?_) (fun cdv A outer s H vs Q E hr h => ?_)
  · obtain ⟨g, w, O, a, b, c, d, qa, qb, qc, qd, rfl, _⟩ := h
    rfl
  obtain ⟨g, w, O, a, b, c, d, qa, qb, qc, qd, rfl, ⟨s, G⟩, ha, hb, hc, hd, fb, fc, fd, h47, hS, k⟩ := h
  have hu := hu_of hr
  refine ⟨_, (pss_cons (ps_set (i := 5) sc_Grove_knit.nd rfl (Or.inl rfl) (pe_tup (pa_cons (pv 1) (pa_cons (pv 2) (pa_cons (pv 3) (pa_cons (pv 4) pa_nil))))))
      (pss_cons (ps_if (pt_cmp (pc_din hu (pv 5) (pe_fld (pv 0) rfl))) (pss_one (ps_ret (pe_dget hu (pe_fld (pv 0) rfl) (pv 5) (fun _ _ => rfl)))) pss_nil)
      (pss_cons (ps_set (i := 6) sc_Grove_knit.nd rfl (Or.inl rfl) (pe_ix ix_list (pe_fld (pv 0) rfl) (pv 1) (fun _ _ => rfl)))
      (pss_cons (ps_set (i := 7) sc_Grove_knit.nd rfl (Or.inl rfl) (pe_op op_add (pe_op op_add (pe_op op_add (pe_ix ix_list (pe_fld (pv 0) rfl) (pv 1) (fun _ _ => rfl)) (pe_ix ix_list (pe_fld (pv 0) rfl) (pv 2) (fun _ _ => rfl))) (pe_ix ix_list (pe_fld (pv 0) rfl) (pv 3) (fun _ _ => rfl))) (pe_ix ix_list (pe_fld (pv 0) rfl) (pv 4) (fun _ _ => rfl))))
      (pss_cons (ps_set (i := 8) sc_Grove_knit.nd rfl (Or.inl rfl) (pe_call G_round_four (hr.mono (by omega)) (by rfl) T.g_round_four k_round_four b_round_four .nil pass0 (pa_cons (pe_lc (own := [("one", 9)]) (g := gName 9) (te := tOp (rIxL K) (tFld K (tVar 0) "spans") (tVar 9)) (by rfl) sc_Grove_knit.nd (pi_tup (pv 5)) (blkOk_by (own := [("one", 9)]) (N := [("self" : Str), ("a" : Str), ("b" : Str), ("c" : Str), ("d" : Str), ("made" : Str), ("level" : Str), ("lives" : Str), ("span" : Str), ("one" : Str)]) (sc := defScope s_Grove_knit) (by decide +kernel)) (fun _ _ _ _ _ => pg_name (i := 9) sc_Grove_knit.nd rfl (Or.inl rfl)) (fun _ _ _ _ _ => pts_nil) (fun _ _ _ _ _ => (pe_ix ix_list (pe_fld (pv 0) rfl) (pv 9) (fun _ _ => rfl)))) (pa_cons (pe_op op_shl pe_int (pv 6)) pa_nil))))
      (pss_one (ps_ret (pe_meth (pv 0) T.c_Grove T.m_Grove_kept G_Grove_kept (hr.mono (by omega)) b_Grove_kept .nil pass0 (pa_cons (pv 5) (pa_cons (pe_op op_add (pv 6) pe_int) (pa_cons (pv 7) (pa_cons (pv 8) pa_nil)))))))))))), ?_⟩
  refine ⟨_, rfl, _, rfl, _, rfl, _, rfl, (by show 4 ≤ sizeLine; decide), fun p hp => ?_⟩
  have G1 := G.new hp (.tup [.int (a : Nat), .int (b : Nat), .int (c : Nat), .int (d : Nat)])
  have hp1 : upd O p (.tup [.int (a : Nat), .int (b : Nat), .int (c : Nat), .int (d : Nat)]) p = some (.tup ([(a : Int), (b : Int), (c : Int), (d : Int)].map V.int)) := upd_same
  have s1 : Same O (upd O p (.tup [.int (a : Nat), .int (b : Nat), .int (c : Nat), .int (d : Nat)])) := same_new (G.fresh hp) _
  obtain ⟨dx, hg⟩ := G1.ob
  have r : Rep w.cs (.node qa qb qc qd) [(a : Int), (b : Int), (c : Int), (d : Int)] := ⟨a, b, c, d, rfl, ha, hb, hc, hd⟩
  refine ⟨_, rfl, _, rfl, g, _, dx, _, _, rfl, G1.sub hg, T.c_Grove, T.n_Grove_numbers, gfs_numbers s, _, _, rfl, DGet.t (k := kI [(a : Int), (b : Int), (c : Int), (d : Int)]) G1.hN (by rw [kI_V]; exact G1.sub hp1), _, rfl, ?_⟩
  cases e : valV s.kv (kI [(a : Int), (b : Int), (c : Int), (d : Int)]) with
  | some v =>
    refine iteT ?_
    obtain ⟨i, rfl, hi⟩ := G1.found r e
    refine ⟨_, rfl, g, _, dx, _, _, rfl, G1.sub hg, T.c_Grove, T.n_Grove_numbers, gfs_numbers s, _, rfl, _, _, rfl, by rw [← e]; exact DGet.t (k := kI [(a : Int), (b : Int), (c : Int), (d : Int)]) G1.hN (by rw [kI_V]; exact G1.sub hp1), ?_⟩
    exact k i w _ _ ⟨s, G1⟩ rfl (ExC.refl w) s1 hi
  | none =>
    refine iteF ?_
    have la : lev qa ≤ 47 := h47
    -- level = self.levels[a]
    refine ⟨_, rfl, g, _, dx, _, _, rfl, G1.sub hg, T.c_Grove, T.n_Grove_levels, gfs_levels s, _, rfl, _, _, _, _, rfl, rfl, SqL.of G1.hL, G1.lev_at ha, ?_⟩
    -- lives = ..
    refine ⟨_, rfl, g, _, dx, _, _, rfl, G1.sub hg, T.c_Grove, T.n_Grove_lives, gfs_lives s, _, rfl, _, _, _, _, rfl, rfl, SqL.of G1.hV, G1.lives_at ha, ?_⟩
    refine ⟨_, rfl, g, _, dx, _, _, rfl, G1.sub hg, T.c_Grove, T.n_Grove_lives, gfs_lives s, _, rfl, _, _, _, _, rfl, rfl, SqL.of G1.hV, G1.lives_at hb, _, _, rfl, rfl, ?_⟩
    refine ⟨_, rfl, g, _, dx, _, _, rfl, G1.sub hg, T.c_Grove, T.n_Grove_lives, gfs_lives s, _, rfl, _, _, _, _, rfl, rfl, SqL.of G1.hV, G1.lives_at hc, _, _, rfl, rfl, ?_⟩
    refine ⟨_, rfl, g, _, dx, _, _, rfl, G1.sub hg, T.c_Grove, T.n_Grove_lives, gfs_lives s, _, rfl, _, _, _, _, rfl, rfl, SqL.of G1.hV, G1.lives_at hd, _, _, rfl, rfl, ?_⟩
    -- span
    obtain ⟨ua, xa, ya⟩ := G1.span_at ha
    obtain ⟨ub, xb, yb⟩ := G1.span_at hb
    obtain ⟨uc, xc, yc⟩ := G1.span_at hc
    obtain ⟨ud, xd, yd⟩ := G1.span_at hd
    refine ⟨_, rfl, p, rfl, ⟨_, SqT.of (G1.sub hp1)⟩, fun D hD => lc_map (walk_tup (xs := [.int (a : Nat), .int (b : Nat), .int (c : Nat), .int (d : Nat)])) (fun _ => rfl) (fun i H' => H' = upd (upd H p (.tup [.int (a : Nat), .int (b : Nat), .int (c : Nat), .int (d : Nat)])) D (.lst ([ua, ub, uc, ud].take i))) rfl (fun i H' _ e => ?_) ?_ ?_⟩
    · rw [e]; exact SqT.of (by rw [upd_ne (ne_of_none (G1.sub hp1) hD)]; exact G1.sub hp1)
    · rintro i x H1 H2 hi rfl ⟨rfl, hx⟩
      have hi4 : i < 4 := hi
      have key : ∃ (n : Nat) (u : V), x = .int (n : Nat) ∧ s.sp[n]? = some u ∧ [ua, ub, uc, ud][i]? = some u := by
        rcases (show i = 0 ∨ i = 1 ∨ i = 2 ∨ i = 3 by omega) with rfl | rfl | rfl | rfl
        · exact ⟨a, ua, (Option.some.inj hx).symm, xa, rfl⟩
        · exact ⟨b, ub, (Option.some.inj hx).symm, xb, rfl⟩
        · exact ⟨c, uc, (Option.some.inj hx).symm, xc, rfl⟩
        · exact ⟨d, ud, (Option.some.inj hx).symm, xd, rfl⟩
      obtain ⟨n, u, rfl, hn, hun⟩ := key
      have gD : g ≠ D := ne_of_none (G1.sub hg) hD
      have sD : s.lS ≠ D := ne_of_none G1.hS hD
      refine ⟨_, rfl, g, _, dx, _, _, rfl, (by rw [upd_ne gD]; exact G1.sub hg), T.c_Grove, T.n_Grove_spans, gfs_spans s, _, rfl, _, _, _, _, rfl, rfl, SqL.of (by rw [upd_ne sD]; exact G1.hS), atI_nat hn, ?_⟩
      refine ⟨_, upd_same, ?_, ?_⟩
      · rw [List.length_take]
        exact Nat.lt_of_le_of_lt (Nat.min_le_right _ _) (by show 4 < sizeLine; decide)
      · rw [upd_upd, List.take_succ, hun]
        rfl
    · rintro H1 rfl
      have G2 := G1.new hD (.lst [ua, ub, uc, ud])
      refine ⟨_, rfl, _, _, rfl, rfl, shlC (by omega), ?_⟩
      have bxs : BxVs (upd (upd H p (.tup [.int (a : Nat), .int (b : Nat), .int (c : Nat), .int (d : Nat)])) D (.lst [ua, ub, uc, ud])) [spanQ qa, spanQ qb, spanQ qc, spanQ qd] [ua, ub, uc, ud] := by
        refine ⟨rfl, fun i z v h1 h2 => ?_⟩
        have up : ∀ {o : Option Bx} {v : V}, BxV (upd O p (.tup [.int (a : Nat), .int (b : Nat), .int (c : Nat), .int (d : Nat)])) o v → BxV (upd (upd H p (.tup [.int (a : Nat), .int (b : Nat), .int (c : Nat), .int (d : Nat)])) D (.lst [ua, ub, uc, ud])) o v := fun h => (h.same G1.same).same (same_new hD _)
        have hi : i < 4 := (List.getElem?_eq_some_iff.mp h1).1
        rcases (show i = 0 ∨ i = 1 ∨ i = 2 ∨ i = 3 by omega) with rfl | rfl | rfl | rfl
        · cases h1; cases h2; exact up ya
        · cases h1; cases h2; exact up yb
        · cases h1; cases h2; exact up yc
        · cases h1; cases h2; exact up yd
      refine ⟨D, _, _, _, rfl, SqL.of upd_same, bxs, by show 4 ≤ 4; omega, fun v H' e3 hv => ?_⟩
      obtain ⟨O3, G3, s3, _⟩ := G2.after e3
      have hp3 : O3 p = some (.tup ([(a : Int), (b : Int), (c : Int), (d : Int)].map V.int)) := s3 _ _ (by rw [upd_ne (ne_of_none (G1.sub hp1) hD)]; exact hp1)
      obtain ⟨dx3, hg3⟩ := G3.ob
      rw [shl1] at hv
      refine ⟨_, rfl, g, dx3, _, rfl, G3.sub hg3, by rfl, _, rfl, _, rfl, _, _, rfl, rfl, _, rfl, _, rfl, g, w, s, O3, p, _, .node qa qb qc qd, v, ?_, G3, hp3, e, r, G3.bx hv, hS, ⟨⟨G1.wf_at ha, fb, fc, fd⟩, by show lev qa + 1 ≤ 48; omega⟩, fun H'' G4 => ?_⟩
      · show [V.ref g, V.ref p, V.int ((lev qa : Int) + 1), V.int ((lives qa : Int) + (lives qb : Int) + (lives qc : Int) + (lives qd : Int)), v] = [V.ref g, V.ref p, V.int ((lev qa + 1 : Nat) : Int), V.int ((lives qa + lives qb + lives qc + lives qd : Nat) : Int), v]
        simp only [Int.natCast_add, Int.natCast_one]
      · exact k w.cs.length _ _ _ G4 rfl (fun i q h => by show (w.cs ++ [.node qa qb qc qd])[i]? = some q; rw [List.getElem?_append_left (List.getElem?_eq_some_iff.mp h).1]; exact h) ((s1.trans (same_new (G1.fresh hD) _)).trans s3)
          (by show (w.cs ++ [.node qa qb qc qd])[w.cs.length]? = _; rw [List.getElem?_append_right (Nat.le_refl _), Nat.sub_self]; rfl)
end
end Jf
/-! JfG4 -/
set_option autoImplicit true
namespace Jf
open PySem PySem.Spec PyProof.Rows L2
section
variable {K : PySem.W.Frag} {S : Q → Prop} {g : Addr} {w : GWd} {s : GS} {O H : Hp}
abbrev rowsD (rows : List (Nat × Addr × List Nat)) : List (Key × V) := rows.map fun r => ((Sum.inl (r.1 : Int) : Key), V.ref r.2.1)
theorem row_some : ∀ {rows : List (Nat × Addr × List Nat)} {st : Nat} {v : V}, valV (rowsD rows) (Sum.inl (st : Int) : Key) = some v → ∃ r ∈ rows, r.1 = st ∧ v = .ref r.2.1
  | [], st, v, h => by cases h
  | r :: rs, st, v, h => by
    by_cases e : r.1 = st
    · have e' : ((Sum.inl (r.1 : Int) : Key), V.ref r.2.1).1 = (Sum.inl (st : Int) : Key) := by show (Sum.inl (r.1 : Int) : Key) = _; rw [e]
      have z : valV (rowsD (r :: rs)) (Sum.inl (st : Int) : Key) = some (V.ref r.2.1) := valV_pos e'
      rw [z] at h
      exact ⟨r, List.mem_cons_self .., e, (Option.some.inj h).symm⟩
    · have e' : ¬ ((Sum.inl (r.1 : Int) : Key), V.ref r.2.1).1 = (Sum.inl (st : Int) : Key) := fun z => e (by have := Sum.inl.inj z; omega)
      have z : valV (rowsD (r :: rs)) (Sum.inl (st : Int) : Key) = valV (rowsD rs) (Sum.inl (st : Int) : Key) := valV_neg e'
      rw [z] at h
      obtain ⟨r', m, h1, h2⟩ := row_some h
      exact ⟨r', List.mem_cons_of_mem _ m, h1, h2⟩
theorem row_none : ∀ {rows : List (Nat × Addr × List Nat)} {st : Nat}, valV (rowsD rows) (Sum.inl (st : Int) : Key) = none → ∀ r ∈ rows, r.1 ≠ st
  | [], st, h, r, m => by cases m
  | r0 :: rs, st, h, r, m => by
    have n : ¬ ((Sum.inl (r0.1 : Int) : Key), V.ref r0.2.1).1 = (Sum.inl (st : Int) : Key) := fun e => by
      have z : valV (rowsD (r0 :: rs)) (Sum.inl (st : Int) : Key) = some (V.ref r0.2.1) := valV_pos e
      rw [z] at h; cases h
    have z : valV (rowsD (r0 :: rs)) (Sum.inl (st : Int) : Key) = valV (rowsD rs) (Sum.inl (st : Int) : Key) := valV_neg n
    rw [z] at h
    rcases List.mem_cons.mp m with rfl | m
    · intro e; exact n (by show (Sum.inl (r.1 : Int) : Key) = _; rw [e])
    · exact row_none h r m
theorem GVs.rows_len (G : GVs K S g w s O H) : w.rows.length ≤ 8 := by
  have h := Bd.lt 8 (w.rows.map fun r => r.1) G.rnd fun q m => by
    obtain ⟨r, hr, e⟩ := List.mem_map.mp m
    have := (G.rws r hr).1
    omega
  rw [List.length_map] at h
  exact h
/-- a new row -/
theorem GVs.addRow (G : GVs K S g w s O H) {p : Addr} {st : Nat} (hp : H p = none) (hst : st ≤ 7) (hn : ∀ r ∈ w.rows, r.1 ≠ st) :
    GVs K S g ⟨w.rows ++ [(st, p, [])], w.cs⟩ s O (upd (upd H p (.lst [])) s.dP (.dK (rowsD (w.rows ++ [(st, p, [])])))) := by
  have A := G.apart
  have np := G.free hp
  have np' := np
  unfold ownL at np'
  simp only [List.mem_cons, not_or] at np'
  obtain ⟨p0, p1, p2, p3, p4, p5, p6⟩ := np'
  have eo : ownL ⟨w.rows ++ [(st, p, [])], w.cs⟩ s = ownL w s ++ [p] := by
    unfold ownL
    rw [List.map_append]
    rfl
  have keep : ∀ {a : Addr}, a ≠ s.dP → a ≠ p → (upd (upd H p (.lst [])) s.dP (.dK (rowsD (w.rows ++ [(st, p, [])])))) a = H a := fun h1 h2 => by rw [upd_ne h1, upd_ne h2]
  refine { G with ob := G.ob, own := fun a m => ?_, out := fun a m => ?_, nd := ?_, hN := ?_, hM := ?_, hL := ?_, hV := ?_, hS := ?_, hP := ?_, hR := fun r hr => ?_, rws := fun r hr => ?_, rnd := ?_ }
  · rw [eo] at m
    rcases List.mem_append.mp m with m | m
    · exact G.own a m
    · rw [List.mem_singleton.mp m]; exact G.fresh hp
  · rw [eo] at m
    have m1 : a ∉ ownL w s := fun z => m (List.mem_append_left _ z)
    have m2 : a ≠ p := fun z => m (List.mem_append_right _ (List.mem_singleton.mpr z))
    have m3 : a ≠ s.dP := fun z => m1 (by rw [z]; simp [ownL])
    rw [keep m3 m2]
    exact G.out a m1
  · rw [eo]
    exact nd_snoc G.nd np
  · rw [keep A.n05 (Ne.symm p0)]; exact G.hN
  · rw [keep A.n15 (Ne.symm p1)]; exact G.hM
  · rw [keep A.n25 (Ne.symm p2)]; exact G.hL
  · rw [keep A.n35 (Ne.symm p3)]; exact G.hV
  · rw [keep A.n45 (Ne.symm p4)]; exact G.hS
  · exact upd_same
  · rcases List.mem_append.mp hr with hr | hr
    · have a := A.r r hr
      rw [keep a.2.2.2.2.2 fun z => p6 (List.mem_map.mpr ⟨r, hr, z⟩)]
      exact G.hR r hr
    · rw [List.mem_singleton.mp hr]
      rw [upd_ne (show p ≠ s.dP from p5), upd_same]
      rfl
  · rcases List.mem_append.mp hr with hr | hr
    · exact G.rws r hr
    · rw [List.mem_singleton.mp hr]
      exact ⟨hst, Nat.zero_le _, fun k i h => by cases h⟩
  · show (List.map (fun r : Nat × Addr × List Nat => r.1) (w.rows ++ [(st, p, [])])).Nodup
    rw [List.map_append]
    exact nd_snoc G.rnd fun m => by
      obtain ⟨r, hr, e⟩ := List.mem_map.mp m
      exact hn r hr e
/-- a row grows -/
def pushRow (ra : Addr) (i : Nat) (r : Nat × Addr × List Nat) : Nat × Addr × List Nat := if r.2.1 = ra then (r.1, r.2.1, r.2.2 ++ [i]) else r
theorem pushRow_1 (ra : Addr) (i : Nat) (r : Nat × Addr × List Nat) : (pushRow ra i r).1 = r.1 ∧ (pushRow ra i r).2.1 = r.2.1 := by
  unfold pushRow
  split <;> exact ⟨rfl, rfl⟩
theorem GVs.rowPush (G : GVs K S g w s O H) {ra : Addr} {st i : Nat} {ids : List Nat} (hr : (st, ra, ids) ∈ w.rows) (hi : w.cs[i]? = some (solid ids.length st)) (hl : ids.length ≤ 48) :
    GVs K S g ⟨w.rows.map (pushRow ra i), w.cs⟩ s O (upd H ra (.lst (ids.map (fun i => V.int (i : Nat)) ++ [.int (i : Nat)]))) := by
  have A := G.apart
  have ar := A.r _ hr
  have em : (w.rows.map (pushRow ra i)).map (fun r => r.2.1) = w.rows.map (fun r => r.2.1) := by
    rw [List.map_map]
    exact List.map_congr_left fun r _ => (pushRow_1 ra i r).2
  have em1 : (w.rows.map (pushRow ra i)).map (·.1) = w.rows.map (·.1) := by
    rw [List.map_map]
    exact List.map_congr_left fun r _ => (pushRow_1 ra i r).1
  have eo : ownL ⟨w.rows.map (pushRow ra i), w.cs⟩ s = ownL w s := by
    unfold ownL
    rw [em]
  have mra : ra ∈ ownL w s := by
    unfold ownL
    simp only [List.mem_cons, List.mem_map]
    exact .inr (.inr (.inr (.inr (.inr (.inr ⟨_, hr, rfl⟩)))))
  have one : ∀ r ∈ w.rows, r.2.1 = ra → r = (st, ra, ids) := fun r hm e => by
    obtain ⟨j, hj⟩ := List.getElem?_of_mem hm
    obtain ⟨j', hj'⟩ := List.getElem?_of_mem hr
    have h1 : (w.rows.map fun r => r.2.1)[j]? = some ra := by rw [List.getElem?_map, hj]; exact congrArg some e
    have h2 : (w.rows.map fun r => r.2.1)[j']? = some ra := by rw [List.getElem?_map, hj']; rfl
    rw [nd_ix A.rr h1 h2, hj'] at hj
    exact (Option.some.inj hj).symm
  refine { G with ob := G.ob, own := fun a m => ?_, out := fun a m => ?_, nd := ?_, hN := ?_, hM := ?_, hL := ?_, hV := ?_, hS := ?_, hP := ?_, hR := fun r hr' => ?_, rws := fun r hr' => ?_, rnd := ?_ }
  · rw [eo] at m; exact G.own a m
  · rw [eo] at m
    rw [upd_ne (show a ≠ ra from fun z => m (z ▸ mra))]
    exact G.out a m
  · rw [eo]; exact G.nd
  · rw [upd_ne (Ne.symm ar.1)]; exact G.hN
  · rw [upd_ne (Ne.symm ar.2.1)]; exact G.hM
  · rw [upd_ne (Ne.symm ar.2.2.1)]; exact G.hL
  · rw [upd_ne (Ne.symm ar.2.2.2.1)]; exact G.hV
  · rw [upd_ne (Ne.symm ar.2.2.2.2.1)]; exact G.hS
  · rw [upd_ne (Ne.symm ar.2.2.2.2.2), G.hP]
    show some (HO.dK (rowsD w.rows)) = some (HO.dK (rowsD (w.rows.map (pushRow ra i))))
    have e : rowsD (w.rows.map (pushRow ra i)) = rowsD w.rows := by
      unfold rowsD
      rw [List.map_map]
      exact List.map_congr_left fun r _ => by
        show ((Sum.inl ((pushRow ra i r).1 : Int) : Key), V.ref (pushRow ra i r).2.1) = _
        rw [(pushRow_1 ra i r).1, (pushRow_1 ra i r).2]
    rw [e]
  · obtain ⟨r0, h0, rfl⟩ := List.mem_map.mp hr'
    by_cases e : r0.2.1 = ra
    · have e0 := one r0 h0 e
      subst e0
      have e1 : pushRow ra i (st, ra, ids) = (st, ra, ids ++ [i]) := if_pos rfl
      rw [e1, List.map_append]
      exact upd_same
    · have e1 : pushRow ra i r0 = r0 := if_neg e
      rw [e1, upd_ne e]
      exact G.hR r0 h0
  · obtain ⟨r0, h0, rfl⟩ := List.mem_map.mp hr'
    by_cases e : r0.2.1 = ra
    · have e0 := one r0 h0 e
      subst e0
      have e1 : pushRow ra i (st, ra, ids) = (st, ra, ids ++ [i]) := if_pos rfl
      rw [e1]
      obtain ⟨a, b, c⟩ := G.rws _ hr
      refine ⟨a, by show (ids ++ [i]).length ≤ 49; rw [List.length_append, List.length_singleton]; omega, fun k j h => ?_⟩
      have h : (ids ++ [i])[k]? = some j := h
      by_cases hk : k < ids.length
      · rw [List.getElem?_append_left hk] at h; exact c k j h
      · have hk2 : k = ids.length := by
          have := (List.getElem?_eq_some_iff.mp h).1
          rw [List.length_append, List.length_singleton] at this
          omega
        subst hk2
        rw [List.getElem?_append_right (Nat.le_refl _), Nat.sub_self] at h
        have e2 : i = j := Option.some.inj h
        rw [← e2]
        exact hi
    · have e1 : pushRow ra i r0 = r0 := if_neg e
      rw [e1]
      exact G.rws r0 h0
  · rw [em1]; exact G.rnd
theorem pushRow_mem {rows : List (Nat × Addr × List Nat)} {st i : Nat} {ra : Addr} {ids : List Nat} (h : (st, ra, ids) ∈ rows) : (st, ra, ids ++ [i]) ∈ rows.map (pushRow ra i) := by
  refine List.mem_map.mpr ⟨_, h, ?_⟩
  exact if_pos rfl
end
section
variable {P : Program} {w : World} {K : PySem.W.Frag} {mg : Str → Option Value} {base : Heap} {S : Q → Prop}
/-- the even square of a level and a state -/
def spEven (K : PySem.W.Frag) (S : Q → Prop) : Sp := fun vs H Qk _ => ∃ (g : Addr) (w : GWd) (O : Hp) (k st : Nat), vs = [.ref g, .int (k : Nat), .int (st : Nat)] ∧ GV K S g w O H ∧ k ≤ 48 ∧ st ≤ 7 ∧
  ∀ (i : Nat) (w' : GWd) (O' H' : Hp), GV K S g w' O' H' → ExC w w' → Same O O' → w'.cs[i]? = some (solid k st) → Qk (.int (i : Nat)) H'
theorem sc_Grove_even : FnScope [("self" : Str), ("level" : Str), ("state" : Str), ("row" : Str), ("one" : Str)] ["self", "level", "state"] (defScope s_Grove_even) := ⟨rfl, rfl, rfl, by decide +kernel, rfl, by decide +kernel, by decide +kernel⟩
theorem ok_Grove_even (T : Txt K mg) : Ok P w K mg base ("Grove", some "even") ["self", "level", "state"] 4 (spEven K S) := by
  obtain ⟨fd_Grove_cell, G_Grove_cell, b_Grove_cell, k_Grove_cell⟩ := ok_Grove_cell (P := P) (w := w) (base := base) (S := S) T
  obtain ⟨fd_Grove_knit, G_Grove_knit, b_Grove_knit, k_Grove_knit⟩ := ok_Grove_knit (P := P) (w := w) (base := base) (S := S) T
  refine Ok.of T.d_Grove_even sc_Grove_even (fun vs H Q E h => ?_) (fun cdv A outer s H vs Q E hr h => ?_)
  · obtain ⟨g, w, O, k, st, rfl, _⟩ := h
    rfl
  obtain ⟨g, w, O, k, st, rfl, ⟨s, G⟩, hk, hst, q⟩ := h
  have hu := hu_of hr
  obtain ⟨dx, hg⟩ := G.ob
  refine ⟨_, (C8.pss_cut (ps_set (i := 3) sc_Grove_even.nd rfl (Or.inl rfl) (pe_dsetd (pe_fld (pv 0) rfl) (pv 2) (pe_lst pa_nil) ⟨rfl, rfl, rfl, rfl⟩))
      (C8.pss_cut (ps_if (pt_cmpR op_eq (pe_callB call_len_seq (by rfl) T.f_len (by decide +kernel) (pa_cons (pv 3) pa_nil)) pe_int (nomark _)) (pss_one (ps_expr (pe_bm PySem.F.plainAttrs_list PySem.F.slot_list_append PySem.F.type_list_append mt_append (pv 3) (pa_cons (pe_meth (pv 0) T.c_Grove T.m_Grove_cell G_Grove_cell (hr.mono (by omega)) b_Grove_cell .nil pass0 (pa_cons (pv 2) pa_nil)) pa_nil)))) pss_nil)
      (pss_cons (ps_while PassesOwn.never (pt_cmpR op_le (pe_callB call_len_seq (by rfl) T.f_len (by decide +kernel) (pa_cons (pv 3) pa_nil)) (pv 1) (nomark _)) (pss_cons (ps_set (i := 4) sc_Grove_even.nd rfl (Or.inl rfl) (pe_ix ix_list (pv 3) (pe_un un_neg pe_int) (fun _ _ => rfl)))
      (pss_one (ps_expr (pe_bm PySem.F.plainAttrs_list PySem.F.slot_list_append PySem.F.type_list_append mt_append (pv 3) (pa_cons (pe_meth (pv 0) T.c_Grove T.m_Grove_knit G_Grove_knit (hr.mono (by omega)) b_Grove_knit .nil pass0 (pa_cons (pv 4) (pa_cons (pv 4) (pa_cons (pv 4) (pa_cons (pv 4) pa_nil))))) pa_nil))))))
      (pss_one (ps_ret (pe_ix ix_list (pv 3) (pv 1) (fun _ _ => rfl))))))), ?_⟩
  refine ⟨fun σ' H' => ∃ (w1 : GWd) (O1 : Hp) (ra : Addr) (ids : List Nat), σ' = [some (.ref g), some (.int (k : Nat)), some (.int (st : Nat)), some (.ref ra), none] ∧ GV K S g w1 O1 H' ∧ ExC w w1 ∧ Same O O1 ∧ (st, ra, ids) ∈ w1.rows, ?_, ?_⟩
  · refine ⟨_, rfl, g, _, dx, _, _, rfl, G.sub hg, T.c_Grove, T.n_Grove_plain, gfs_plain s, _, rfl, .inl ⟨_, .inl G.hP⟩, _, rfl, Nat.zero_le _, fun p hp => ?_⟩
    have G1 := G.new hp (.lst [])
    have s1 : Same O (upd O p (.lst [])) := same_new (G.fresh hp) _
    have hl := G.rows_len
    refine ⟨_, Sum.inl (st : Int), G1.hP, rfl, ?_, fun v hv => ?_, fun hv => ?_⟩
    · rw [List.length_map]
      exact small1000 (by omega)
    · obtain ⟨r, hr1, rfl, rfl⟩ := row_some hv
      exact ⟨w, _, r.2.1, r.2.2, rfl, ⟨s, G1⟩, ExC.refl w, s1, hr1⟩
    · rw [putK_new _ hv]
      refine ⟨⟨w.rows ++ [(st, p, [])], w.cs⟩, O, p, [], rfl, ⟨s, ?_⟩, ExC.refl w, Same.refl O, by simp⟩
      have z := G.addRow hp hst (row_none hv)
      unfold rowsD at z
      rw [List.map_append] at z
      exact z
  rintro σ1 H1 ⟨w1, O1, ra, ids, rfl, ⟨s1, G1⟩, x1, m1, r1⟩
  refine ⟨fun σ' H' => ∃ (w2 : GWd) (O2 : Hp) (ids : List Nat), σ' = [some (.ref g), some (.int (k : Nat)), some (.int (st : Nat)), some (.ref ra), none] ∧ GV K S g w2 O2 H' ∧ ExC w w2 ∧ Same O O2 ∧ (st, ra, ids) ∈ w2.rows ∧ ids ≠ [], ?_, ?_⟩
  · refine ⟨_, rfl, ra, _, rfl, .inl (SqL.of (G1.hR _ r1)), rfl, _, rfl, ite2 (fun c => ?_) (fun c => ?_)⟩
    · have c1 : V.int ((ids.map fun i => V.int (i : Nat)).length : Int) = V.int 0 := of_decide_eq_true c
      have c2 : ids = [] := by
        rw [List.length_map] at c1
        injection c1 with c1
        exact List.eq_nil_of_length_eq_zero (by omega)
      subst c2
      obtain ⟨dx1, hg1⟩ := G1.ob
      refine ⟨_, rfl, .inl ⟨rfl, _, SqL.of (G1.hR _ r1)⟩, _, rfl, g, dx1, _, rfl, G1.sub hg1, by rfl, _, rfl, g, w1, O1, st, rfl, ⟨s1, G1⟩, hst, fun i w2 O2 H2 ⟨s2, G2⟩ er ex sm hi => ?_⟩
      have r2 : (st, ra, ([] : List Nat)) ∈ w2.rows := by rw [er]; exact r1
      refine ⟨ra, _, _, rfl, rfl, G2.hR _ r2, by show 0 < sizeLine; decide, ?_⟩
      exact ⟨_, O2, [i], rfl, ⟨s2, G2.rowPush r2 hi (by show 0 ≤ 48; omega)⟩, x1.trans ex, m1.trans sm, pushRow_mem (ids := []) r2, by simp⟩
    · have c1 : ¬ V.int ((ids.map fun i => V.int (i : Nat)).length : Int) = V.int 0 := of_decide_eq_false (Bool.eq_false_iff.mpr c)
      refine ⟨w1, O1, ids, rfl, ⟨s1, G1⟩, x1, m1, r1, fun e => c1 ?_⟩
      rw [e]; rfl
  rintro σ2 H2 ⟨w2, O2, ids2, rfl, G2, x2, m2, r2, n2⟩
  refine ⟨fun m σ' H' => ∃ (w3 : GWd) (O3 : Hp) (ids : List Nat) (z : Option V), σ' = [some (.ref g), some (.int (k : Nat)), some (.int (st : Nat)), some (.ref ra), z] ∧ GV K S g w3 O3 H' ∧ ExC w w3 ∧ Same O O3 ∧ (st, ra, ids) ∈ w3.rows ∧ ids ≠ [] ∧ m = 60 - ids.length, ⟨_, w2, O2, ids2, none, rfl, G2, x2, m2, r2, n2, rfl⟩, ?_⟩
  rintro m σ3 H3 ⟨w3, O3, ids, z, rfl, ⟨s3, G3⟩, x3, m3, r3, n3, rfl⟩
  have hids := (G3.rws _ r3).2.1
  refine ⟨_, rfl, ra, _, rfl, .inl (SqL.of (G3.hR _ r3)), _, rfl, _, _, rfl, rfl, _, rfl, ite2 (fun c => ?_) (fun c => ?_)⟩
  · have c1 : ((ids.map fun i => V.int (i : Nat)).length : Int) ≤ k := of_decide_eq_true c
    rw [List.length_map] at c1
    refine ⟨fun σ' H' => ∃ m', m' < 60 - ids.length ∧ ∃ (w3 : GWd) (O3 : Hp) (ids : List Nat) (z : Option V), σ' = [some (.ref g), some (.int (k : Nat)), some (.int (st : Nat)), some (.ref ra), z] ∧ GV K S g w3 O3 H' ∧ ExC w w3 ∧ Same O O3 ∧ (st, ra, ids) ∈ w3.rows ∧ ids ≠ [] ∧ m' = 60 - ids.length, fun _ _ h => h, ?_⟩
    obtain ⟨l, x, el⟩ : ∃ l x, ids = l ++ [x] := by
      rcases List.eq_nil_or_concat ids with e | ⟨l, x, e⟩
      · exact (n3 e).elim
      · exact ⟨l, x, by rw [e, List.concat_eq_append]⟩
    have hx : w3.cs[x]? = some (solid l.length st) := (G3.rws _ r3).2.2 l.length x (by show ids[l.length]? = some x; rw [el, List.getElem?_append_right (Nat.le_refl _), Nat.sub_self]; rfl)
    have ell : ids.length = l.length + 1 := by rw [el, List.length_append, List.length_singleton]
    refine ⟨_, rfl, 1, rfl, ra, _, _, .int (x : Nat), rfl, rfl, SqL.of (G3.hR _ r3), ?_, ?_⟩
    · show atI (ids.map fun i => V.int (i : Nat)) (-1) = _
      rw [el, List.map_append]
      exact atI_last _ _
    obtain ⟨dx3, hg3⟩ := G3.ob
    have l48 : ids.length ≤ 48 := by omega
    have lx := lev_solid st l.length
    refine ⟨_, rfl, .inl ⟨rfl, _, SqL.of (G3.hR _ r3)⟩, _, rfl, g, dx3, _, rfl, G3.sub hg3, by rfl, _, rfl, _, rfl, _, rfl, _, rfl, g, w3, O3, x, x, x, x, _, _, _, _, rfl, ⟨s3, G3⟩, hx, hx, hx, hx, G3.wf_at hx, G3.wf_at hx, G3.wf_at hx, by rw [lx]; omega, G3.sol (l.length + 1) st (by omega) hst, fun i w4 O4 H4 ⟨s4, G4⟩ er ex sm hi => ?_⟩
    have r4 : (st, ra, ids) ∈ w4.rows := by rw [er]; exact r3
    refine ⟨ra, _, _, rfl, rfl, G4.hR _ r4, ?_, ?_⟩
    · rw [List.length_map]; exact small1000 (by omega)
    exact ⟨60 - (ids ++ [i]).length, by rw [List.length_append, List.length_singleton]; omega, _, O4, ids ++ [i], _, rfl, ⟨s4, G4.rowPush r4 (by rw [ell]; exact hi) l48⟩, x3.trans ex, m3.trans sm, pushRow_mem r4, by simp, rfl⟩
  · have c1 : ¬ ((ids.map fun i => V.int (i : Nat)).length : Int) ≤ k := of_decide_eq_false (Bool.eq_false_iff.mpr c)
    rw [List.length_map] at c1
    have hlt : k < ids.length := by omega
    have hi := (G3.rws _ r3).2.2 k ids[k] (List.getElem?_eq_getElem hlt)
    refine ⟨_, rfl, _, rfl, ra, _, _, .int (ids[k] : Nat), rfl, rfl, SqL.of (G3.hR _ r3), atI_nat (by rw [List.getElem?_map, List.getElem?_eq_getElem hlt]; rfl), ?_⟩
    exact q _ w3 O3 H3 ⟨s3, G3⟩ x3 m3 hi
end
end Jf
/-! JfG5 -/
set_option autoImplicit true
namespace Jf
open PySem PySem.Spec PyProof.Rows L2
section
variable {P : Program} {w : World} {K : PySem.W.Frag} {mg : Str → Option Value} {base : Heap} {S : Q → Prop}
/-- the level of a square that stands there -/
def spAsked (K : PySem.W.Frag) (S : Q → Prop) : Sp := fun vs H Qk _ => ∃ (g : Addr) (w : GWd) (O : Hp) (i : Nat) (q : Q), vs = [.ref g, .int (i : Nat)] ∧ GV K S g w O H ∧ w.cs[i]? = some q ∧ Qk (.int (lev q : Nat)) H
theorem sc_Grove_asked : FnScope [("self" : Str), ("square" : Str)] ["self", "square"] (defScope s_Grove_asked) := ⟨rfl, rfl, rfl, by decide +kernel, rfl, by decide +kernel, by decide +kernel⟩
theorem ok_Grove_asked (T : Txt K mg) : Ok P w K mg base ("Grove", some "asked") ["self", "square"] 2 (spAsked K S) := by
  obtain ⟨fd_is_whole, G_is_whole, b_is_whole, k_is_whole⟩ := ok_is_whole (P := P) (w := w) (base := base) T
  refine Ok.of T.d_Grove_asked sc_Grove_asked (fun vs H Q E h => ?_) (fun cdv A outer s H vs Q E hr h => ?_)
  · obtain ⟨g, w, O, i, q, rfl, _⟩ := h
    rfl
  obtain ⟨g, w, O, i, q, rfl, ⟨s, G⟩, hi, k⟩ := h
  obtain ⟨dx, hg⟩ := G.ob
  have lt := G.id_lt hi
  refine ⟨_, (pss_cons (ps_if (PW.pt (pw_or (pt_not (pt_val (pe_call G_is_whole (hr.mono (by omega)) (by rfl) T.g_is_whole k_is_whole b_is_whole .nil pass0 (pa_cons (pv 1) pa_nil)))) (pw_or1 (pt_not (pt_chain op_le op_lt pe_int (pv 1) (pe_glob (v := .int 1000000000) (by rfl) T.i_MANY.choose_spec ⟨_, rfl⟩)))))) (pss_one ps_never) pss_nil)
      (pss_one (ps_ret (pe_ix ix_list (pe_fld (pv 0) rfl) (pv 1) (fun _ _ => rfl))))), ?_⟩
  refine ⟨_, rfl, _, rfl, _, rfl, iteF ?_⟩
  refine ⟨_, rfl, _, _, rfl, rfl, _, rfl, ?_⟩
  rw [decide_eq_true (show (0 : Int) ≤ i by omega)]
  refine iteT ⟨_, _, rfl, rfl, _, rfl, ?_⟩
  rw [decide_eq_true (show (i : Int) < 1000000000 by omega)]
  refine iteF ?_
  exact ⟨_, rfl, g, _, dx, _, _, rfl, G.sub hg, T.c_Grove, T.n_Grove_levels, gfs_levels s, _, rfl, _, _, _, _, rfl, rfl, SqL.of G.hL, G.lev_at hi, k⟩
theorem sc_Grove_level_of : FnScope [("self" : Str), ("square" : Str)] ["self", "square"] (defScope s_Grove_level_of) := ⟨rfl, rfl, rfl, by decide +kernel, rfl, by decide +kernel, by decide +kernel⟩
theorem ok_Grove_level_of (T : Txt K mg) : Ok P w K mg base ("Grove", some "level_of") ["self", "square"] 3 (spAsked K S) := by
  obtain ⟨fd_Grove_asked, G_Grove_asked, b_Grove_asked, k_Grove_asked⟩ := ok_Grove_asked (P := P) (w := w) (base := base) (S := S) T
  refine Ok.of T.d_Grove_level_of sc_Grove_level_of (fun vs H Q E h => ?_) (fun cdv A outer s H vs Q E hr h => ?_)
  · obtain ⟨g, w, O, i, q, rfl, _⟩ := h
    rfl
  obtain ⟨g, w, O, i, q, rfl, ⟨s, G⟩, hi, k⟩ := h
  obtain ⟨dx, hg⟩ := G.ob
  refine ⟨_, (pss_one (ps_ret (pe_meth (pv 0) T.c_Grove T.m_Grove_asked G_Grove_asked (hr.mono (by omega)) b_Grove_asked .nil pass0 (pa_cons (pv 1) pa_nil)))), ?_⟩
  exact ⟨_, rfl, g, dx, _, rfl, G.sub hg, by rfl, _, rfl, g, w, O, i, q, rfl, ⟨s, G⟩, hi, k⟩
/-- the quarters of a square of a level from 1 on -/
def spQuarters (K : PySem.W.Frag) (S : Q → Prop) : Sp := fun vs H Qk _ => ∃ (g : Addr) (w : GWd) (O : Hp) (i : Nat) (a b c d : Q), vs = [.ref g, .int (i : Nat)] ∧ GV K S g w O H ∧ w.cs[i]? = some (.node a b c d) ∧
  ∀ (p : Addr) (ia ib ic id : Nat), O p = some (.tup [.int (ia : Nat), .int (ib : Nat), .int (ic : Nat), .int (id : Nat)]) → w.cs[ia]? = some a → w.cs[ib]? = some b → w.cs[ic]? = some c → w.cs[id]? = some d → Qk (.ref p) H
theorem sc_Grove_quarters : FnScope [("self" : Str), ("square" : Str)] ["self", "square"] (defScope s_Grove_quarters) := ⟨rfl, rfl, rfl, by decide +kernel, rfl, by decide +kernel, by decide +kernel⟩
theorem ok_Grove_quarters (T : Txt K mg) : Ok P w K mg base ("Grove", some "quarters") ["self", "square"] 3 (spQuarters K S) := by
  obtain ⟨fd_Grove_asked, G_Grove_asked, b_Grove_asked, k_Grove_asked⟩ := ok_Grove_asked (P := P) (w := w) (base := base) (S := S) T
  refine Ok.of T.d_Grove_quarters sc_Grove_quarters (fun vs H Q E h => ?_) (fun cdv A outer s H vs Q E hr h => ?_)
  · obtain ⟨g, w, O, i, a, b, c, d, rfl, _⟩ := h
    rfl
  obtain ⟨g, w, O, i, a, b, c, d, rfl, ⟨s, G⟩, hi, k⟩ := h
  obtain ⟨dx, hg⟩ := G.ob
  obtain ⟨l, p, h1, h2, ia, ib, ic, id, rfl, ha, hb, hc, hd⟩ := G.made_at hi
  refine ⟨_, (pss_cons (ps_if (pt_cmpR op_eq (pe_meth (pv 0) T.c_Grove T.m_Grove_asked G_Grove_asked (hr.mono (by omega)) b_Grove_asked .nil pass0 (pa_cons (pv 1) pa_nil)) pe_int (nomark _)) (pss_one ps_never) pss_nil)
      (pss_one (ps_ret (pe_ix ix_list (pe_fld (pv 0) rfl) (pv 1) (fun _ _ => rfl))))), ?_⟩
  refine ⟨_, rfl, g, dx, _, rfl, G.sub hg, by rfl, _, rfl, g, w, O, i, _, rfl, ⟨s, G⟩, hi, rfl, _, rfl, ?_⟩
  have z : ¬ V.int ((lev a + 1 : Nat) : Int) = V.int 0 := fun e => by injection e with e; omega
  show (if decide (V.int ((lev a + 1 : Nat) : Int) = V.int 0) = true then _ else _)
  rw [decide_eq_false z]
  refine iteF ?_
  exact ⟨_, rfl, g, _, dx, _, _, rfl, G.sub hg, T.c_Grove, T.n_Grove_made, gfs_made s, _, rfl, _, _, _, _, rfl, rfl, SqL.of G.hM, h1, k p ia ib ic id h2 ha hb hc hd⟩
/-- the state of a cell -/
def spStateOf (K : PySem.W.Frag) (S : Q → Prop) : Sp := fun vs H Qk _ => ∃ (g : Addr) (w : GWd) (O : Hp) (i : Nat) (st : Nat), vs = [.ref g, .int (i : Nat)] ∧ GV K S g w O H ∧ w.cs[i]? = some (.leaf st) ∧ Qk (.int (st : Nat)) H
theorem sc_Grove_state_of : FnScope [("self" : Str), ("square" : Str)] ["self", "square"] (defScope s_Grove_state_of) := ⟨rfl, rfl, rfl, by decide +kernel, rfl, by decide +kernel, by decide +kernel⟩
theorem ok_Grove_state_of (T : Txt K mg) : Ok P w K mg base ("Grove", some "state_of") ["self", "square"] 3 (spStateOf K S) := by
  obtain ⟨fd_Grove_asked, G_Grove_asked, b_Grove_asked, k_Grove_asked⟩ := ok_Grove_asked (P := P) (w := w) (base := base) (S := S) T
  refine Ok.of T.d_Grove_state_of sc_Grove_state_of (fun vs H Q E h => ?_) (fun cdv A outer s H vs Q E hr h => ?_)
  · obtain ⟨g, w, O, i, st, rfl, _⟩ := h
    rfl
  obtain ⟨g, w, O, i, st, rfl, ⟨s, G⟩, hi, k⟩ := h
  obtain ⟨dx, hg⟩ := G.ob
  obtain ⟨l, p, h1, h2, hl⟩ := G.made_at hi
  obtain rfl : l = [(st : Int)] := hl
  refine ⟨_, (pss_cons (ps_if (pt_cmpR op_gt (pe_meth (pv 0) T.c_Grove T.m_Grove_asked G_Grove_asked (hr.mono (by omega)) b_Grove_asked .nil pass0 (pa_cons (pv 1) pa_nil)) pe_int (nomark _)) (pss_one ps_never) pss_nil)
      (pss_one (ps_ret (pe_ix ix_tup (pe_ix ix_list (pe_fld (pv 0) rfl) (pv 1) (fun _ _ => rfl)) pe_int (fun _ _ => rfl))))), ?_⟩
  refine ⟨_, rfl, g, dx, _, rfl, G.sub hg, by rfl, _, rfl, g, w, O, i, _, rfl, ⟨s, G⟩, hi, _, _, rfl, rfl, _, rfl, iteF ?_⟩
  exact ⟨_, rfl, g, _, dx, _, _, rfl, G.sub hg, T.c_Grove, T.n_Grove_made, gfs_made s, _, rfl, _, _, _, _, rfl, rfl, SqL.of G.hM, h1, _, _, _, _, rfl, rfl, SqT.of (G.sub h2), rfl, k⟩
/-- how many cells live -/
def spLiving (K : PySem.W.Frag) (S : Q → Prop) : Sp := fun vs H Qk _ => ∃ (g : Addr) (w : GWd) (O : Hp) (i : Nat) (q : Q), vs = [.ref g, .int (i : Nat)] ∧ GV K S g w O H ∧ w.cs[i]? = some q ∧ Qk (.int (lives q : Nat)) H
theorem sc_Grove_living : FnScope [("self" : Str), ("square" : Str)] ["self", "square"] (defScope s_Grove_living) := ⟨rfl, rfl, rfl, by decide +kernel, rfl, by decide +kernel, by decide +kernel⟩
theorem ok_Grove_living (T : Txt K mg) : Ok P w K mg base ("Grove", some "living") ["self", "square"] 3 (spLiving K S) := by
  obtain ⟨fd_Grove_asked, G_Grove_asked, b_Grove_asked, k_Grove_asked⟩ := ok_Grove_asked (P := P) (w := w) (base := base) (S := S) T
  refine Ok.of T.d_Grove_living sc_Grove_living (fun vs H Q E h => ?_) (fun cdv A outer s H vs Q E hr h => ?_)
  · obtain ⟨g, w, O, i, q, rfl, _⟩ := h
    rfl
  obtain ⟨g, w, O, i, q, rfl, ⟨s, G⟩, hi, k⟩ := h
  obtain ⟨dx, hg⟩ := G.ob
  refine ⟨_, (pss_cons (ps_expr (pe_meth (pv 0) T.c_Grove T.m_Grove_asked G_Grove_asked (hr.mono (by omega)) b_Grove_asked .nil pass0 (pa_cons (pv 1) pa_nil)))
      (pss_one (ps_ret (pe_ix ix_list (pe_fld (pv 0) rfl) (pv 1) (fun _ _ => rfl))))), ?_⟩
  refine ⟨_, rfl, g, dx, _, rfl, G.sub hg, by rfl, _, rfl, g, w, O, i, q, rfl, ⟨s, G⟩, hi, ?_⟩
  exact ⟨_, rfl, g, _, dx, _, _, rfl, G.sub hg, T.c_Grove, T.n_Grove_lives, gfs_lives s, _, rfl, _, _, _, _, rfl, rfl, SqL.of G.hV, G.lives_at hi, k⟩
/-- the span -/
def spSpan (K : PySem.W.Frag) (S : Q → Prop) : Sp := fun vs H Qk _ => ∃ (g : Addr) (w : GWd) (O : Hp) (i : Nat) (q : Q), vs = [.ref g, .int (i : Nat)] ∧ GV K S g w O H ∧ w.cs[i]? = some q ∧ ∀ v, BxV O (spanQ q) v → Qk v H
theorem sc_Grove_span : FnScope [("self" : Str), ("square" : Str)] ["self", "square"] (defScope s_Grove_span) := ⟨rfl, rfl, rfl, by decide +kernel, rfl, by decide +kernel, by decide +kernel⟩
theorem ok_Grove_span (T : Txt K mg) : Ok P w K mg base ("Grove", some "span") ["self", "square"] 3 (spSpan K S) := by
  obtain ⟨fd_Grove_asked, G_Grove_asked, b_Grove_asked, k_Grove_asked⟩ := ok_Grove_asked (P := P) (w := w) (base := base) (S := S) T
  refine Ok.of T.d_Grove_span sc_Grove_span (fun vs H Q E h => ?_) (fun cdv A outer s H vs Q E hr h => ?_)
  · obtain ⟨g, w, O, i, q, rfl, _⟩ := h
    rfl
  obtain ⟨g, w, O, i, q, rfl, ⟨s, G⟩, hi, k⟩ := h
  obtain ⟨dx, hg⟩ := G.ob
  obtain ⟨v, h1, h2⟩ := G.span_at hi
  refine ⟨_, (pss_cons (ps_expr (pe_meth (pv 0) T.c_Grove T.m_Grove_asked G_Grove_asked (hr.mono (by omega)) b_Grove_asked .nil pass0 (pa_cons (pv 1) pa_nil)))
      (pss_one (ps_ret (pe_ix ix_list (pe_fld (pv 0) rfl) (pv 1) (fun _ _ => rfl))))), ?_⟩
  refine ⟨_, rfl, g, dx, _, rfl, G.sub hg, by rfl, _, rfl, g, w, O, i, q, rfl, ⟨s, G⟩, hi, ?_⟩
  exact ⟨_, rfl, g, _, dx, _, _, rfl, G.sub hg, T.c_Grove, T.n_Grove_spans, gfs_spans s, _, rfl, _, _, _, _, rfl, rfl, SqL.of G.hS, atI_nat h1, k v h2⟩
theorem sc_Grove_leaf : FnScope [("self" : Str), ("state" : Str)] ["self", "state"] (defScope s_Grove_leaf) := ⟨rfl, rfl, rfl, by decide +kernel, rfl, by decide +kernel, by decide +kernel⟩
theorem ok_Grove_leaf (T : Txt K mg) : Ok P w K mg base ("Grove", some "leaf") ["self", "state"] 3 (spCell K S) := by
  obtain ⟨fd_is_state, G_is_state, b_is_state, k_is_state⟩ := ok_is_state (P := P) (w := w) (base := base) T
  obtain ⟨fd_Grove_cell, G_Grove_cell, b_Grove_cell, k_Grove_cell⟩ := ok_Grove_cell (P := P) (w := w) (base := base) (S := S) T
  refine Ok.of T.d_Grove_leaf sc_Grove_leaf (fun vs H Q E h => ?_) (fun cdv A outer s H vs Q E hr h => ?_)
  · obtain ⟨g, w, O, s, rfl, _⟩ := h
    rfl
  obtain ⟨g, w, O, st, rfl, ⟨s, G⟩, h7, k⟩ := h
  obtain ⟨dx, hg⟩ := G.ob
  refine ⟨_, (pss_cons (ps_if (pt_not (pt_val (pe_call G_is_state (hr.mono (by omega)) (by rfl) T.g_is_state k_is_state b_is_state .nil pass0 (pa_cons (pv 1) pa_nil)))) (pss_one ps_never) pss_nil)
      (pss_one (ps_ret (pe_meth (pv 0) T.c_Grove T.m_Grove_cell G_Grove_cell (hr.mono (by omega)) b_Grove_cell .nil pass0 (pa_cons (pv 1) pa_nil))))), ?_⟩
  refine ⟨_, rfl, st, rfl, h7, _, rfl, iteF ?_⟩
  exact ⟨_, rfl, g, dx, _, rfl, G.sub hg, by rfl, _, rfl, g, w, O, st, rfl, ⟨s, G⟩, h7, k⟩
theorem sc_Grove_solid : FnScope [("self" : Str), ("level" : Str), ("state" : Str)] ["self", "level", "state"] (defScope s_Grove_solid) := ⟨rfl, rfl, rfl, by decide +kernel, rfl, by decide +kernel, by decide +kernel⟩
theorem ok_Grove_solid (T : Txt K mg) : Ok P w K mg base ("Grove", some "solid") ["self", "level", "state"] 5 (spEven K S) := by
  obtain ⟨fd_is_whole, G_is_whole, b_is_whole, k_is_whole⟩ := ok_is_whole (P := P) (w := w) (base := base) T
  obtain ⟨fd_is_state, G_is_state, b_is_state, k_is_state⟩ := ok_is_state (P := P) (w := w) (base := base) T
  obtain ⟨fd_Grove_even, G_Grove_even, b_Grove_even, k_Grove_even⟩ := ok_Grove_even (P := P) (w := w) (base := base) (S := S) T
  refine Ok.of T.d_Grove_solid sc_Grove_solid (fun vs H Q E h => ?_) (fun cdv A outer s H vs Q E hr h => ?_)
  · obtain ⟨g, w, O, k, st, rfl, _⟩ := h
    rfl
  obtain ⟨g, w, O, k, st, rfl, ⟨s, G⟩, hk, h7, q⟩ := h
  obtain ⟨dx, hg⟩ := G.ob
  refine ⟨_, (pss_cons (ps_if (PW.pt (pw_or (pt_not (pt_val (pe_call G_is_whole (hr.mono (by omega)) (by rfl) T.g_is_whole k_is_whole b_is_whole .nil pass0 (pa_cons (pv 1) pa_nil)))) (pw_or1 (pt_not (pt_chain op_le op_le pe_int (pv 1) (pe_glob (v := .int 48) (by rfl) T.i_HIGHEST.choose_spec ⟨_, rfl⟩)))))) (pss_one ps_never) pss_nil)
      (pss_cons (ps_if (pt_not (pt_val (pe_call G_is_state (hr.mono (by omega)) (by rfl) T.g_is_state k_is_state b_is_state .nil pass0 (pa_cons (pv 2) pa_nil)))) (pss_one ps_never) pss_nil)
      (pss_one (ps_ret (pe_meth (pv 0) T.c_Grove T.m_Grove_even G_Grove_even (hr.mono (by omega)) b_Grove_even .nil pass0 (pa_cons (pv 1) (pa_cons (pv 2) pa_nil))))))), ?_⟩
  refine ⟨_, rfl, _, rfl, _, rfl, iteF ?_⟩
  refine ⟨_, rfl, _, _, rfl, rfl, _, rfl, ?_⟩
  rw [decide_eq_true (show (0 : Int) ≤ k by omega)]
  refine iteT ⟨_, _, rfl, rfl, _, rfl, ?_⟩
  rw [decide_eq_true (show (k : Int) ≤ 48 by omega)]
  refine iteF ?_
  refine ⟨_, rfl, st, rfl, h7, _, rfl, iteF ?_⟩
  exact ⟨_, rfl, g, dx, _, rfl, G.sub hg, by rfl, _, rfl, _, rfl, g, w, O, k, st, rfl, ⟨s, G⟩, hk, h7, q⟩
theorem shaped4 (k : Int) : SeqAt.shaped (.list [.int k, .int k, .int k, .int k]) = true := by rfl
theorem sc_Grove_joined : FnScope [("self" : Str), ("a" : Str), ("b" : Str), ("c" : Str), ("d" : Str), ("levels" : Str), ("one" : Str)] ["self", "a", "b", "c", "d"] (defScope s_Grove_joined) := ⟨rfl, rfl, rfl, by decide +kernel, rfl, by decide +kernel, by decide +kernel⟩
theorem ok_Grove_joined (T : Txt K mg) : Ok P w K mg base ("Grove", some "joined") ["self", "a", "b", "c", "d"] 4 (spKnit K S) := by
  obtain ⟨fd_Grove_asked, G_Grove_asked, b_Grove_asked, k_Grove_asked⟩ := ok_Grove_asked (P := P) (w := w) (base := base) (S := S) T
  obtain ⟨fd_Grove_knit, G_Grove_knit, b_Grove_knit, k_Grove_knit⟩ := ok_Grove_knit (P := P) (w := w) (base := base) (S := S) T
  refine Ok.of T.d_Grove_joined sc_Grove_joined (fun vs H Q E h => ?_) (fun cdv A outer s H vs Q E hr h => ?_)
  · obtain ⟨g, w, O, a, b, c, d, qa, qb, qc, qd, rfl, _⟩ := h
    rfl
  obtain ⟨g, w, O, a, b, c, d, qa, qb, qc, qd, rfl, ⟨s, G⟩, ha, hb, hc, hd, fb, fc, fd, h47, hS, k⟩ := h
  have hu64 := hr.units
  obtain ⟨dx, hg⟩ := G.ob
  refine ⟨_, (pss_cons (ps_setLc (i := 5) (own := [("one", 6)]) (g := gName 6) (te := tMeth (CG K) "asked" (spAsked K S) [] E0 (tVar 0) (tCons (tVar 6) tNil)) (by rfl) sc_Grove_joined.nd rfl rfl (sw_true rfl rfl rfl (by decide +kernel)) (pi_tup (pe_tup (pa_cons (pv 1) (pa_cons (pv 2) (pa_cons (pv 3) (pa_cons (pv 4) pa_nil)))))) (blkOk_by (own := [("one", 6)]) (N := [("self" : Str), ("a" : Str), ("b" : Str), ("c" : Str), ("d" : Str), ("levels" : Str), ("one" : Str)]) (sc := defScope s_Grove_joined) (by decide +kernel)) (fun _ _ _ _ _ => pg_name (i := 6) sc_Grove_joined.nd rfl (Or.inl rfl)) (fun _ _ _ _ _ => pts_nil) (fun _ _ _ _ _ => (pe_meth (pv 0) T.c_Grove T.m_Grove_asked G_Grove_asked (hr.mono (by omega)) b_Grove_asked .nil pass0 (pa_cons (pv 6) pa_nil))))
      (pss_cons (ps_if (PW.pt (pw_or (pt_cmpR (op_neD hu64) (pv 5) (pe_op op_rep (pe_lst (pa_cons (pe_ix ix_list (pv 5) pe_int (fun _ _ => rfl)) pa_nil)) pe_int) (nomark _)) (pw_or1 (pt_cmpR op_ge (pe_ix ix_list (pv 5) pe_int (fun _ _ => rfl)) (pe_glob (v := .int 48) (by rfl) T.i_HIGHEST.choose_spec ⟨_, rfl⟩) (nomark _))))) (pss_one ps_never) pss_nil)
      (pss_one (ps_ret (pe_meth (pv 0) T.c_Grove T.m_Grove_knit G_Grove_knit (hr.mono (by omega)) b_Grove_knit .nil pass0 (pa_cons (pv 1) (pa_cons (pv 2) (pa_cons (pv 3) (pa_cons (pv 4) pa_nil))))))))), ?_⟩
  refine ⟨_, rfl, _, rfl, _, rfl, _, rfl, (by show 4 ≤ sizeLine; decide), fun p hp => ?_⟩
  have G1 := G.new hp (.tup [.int (a : Nat), .int (b : Nat), .int (c : Nat), .int (d : Nat)])
  have s1 : Same O (upd O p (.tup [.int (a : Nat), .int (b : Nat), .int (c : Nat), .int (d : Nat)])) := same_new (G.fresh hp) _
  refine ⟨p, rfl, ⟨_, SqT.of upd_same⟩, fun D hD => lc_map (walk_tup (xs := [.int (a : Nat), .int (b : Nat), .int (c : Nat), .int (d : Nat)])) (fun _ => rfl) (fun i H' => H' = upd (upd H p (.tup [.int (a : Nat), .int (b : Nat), .int (c : Nat), .int (d : Nat)])) D (.lst (List.replicate i (.int (lev qa : Nat))))) rfl (fun i H' _ e => ?_) ?_ ?_⟩
  · rw [e]; exact SqT.of (by rw [upd_ne (ne_of_none upd_same hD)]; exact upd_same)
  · rintro i x H1 H2 hi rfl ⟨rfl, hx⟩
    have hi4 : i < 4 := hi
    have key : ∃ (n : Nat) (q : Jf.Q), x = .int (n : Nat) ∧ w.cs[n]? = some q ∧ lev q = lev qa := by
      rcases (show i = 0 ∨ i = 1 ∨ i = 2 ∨ i = 3 by omega) with rfl | rfl | rfl | rfl
      · exact ⟨a, qa, (Option.some.inj hx).symm, ha, rfl⟩
      · exact ⟨b, qb, (Option.some.inj hx).symm, hb, wf_lev fb⟩
      · exact ⟨c, qc, (Option.some.inj hx).symm, hc, wf_lev fc⟩
      · exact ⟨d, qd, (Option.some.inj hx).symm, hd, wf_lev fd⟩
    obtain ⟨n, q, rfl, hn, hl⟩ := key
    have G2 := G1.new hD (.lst (List.replicate i (.int (lev qa : Nat))))
    obtain ⟨dx2, hg2⟩ := G2.ob
    refine ⟨_, rfl, g, dx2, _, rfl, G2.sub hg2, by rfl, _, rfl, g, w, _, n, q, rfl, ⟨s, G2⟩, hn, ?_⟩
    refine ⟨_, upd_same, ?_, ?_⟩
    · rw [List.length_replicate]; exact small1000 (by omega)
    · rw [upd_upd, hl, List.replicate_succ']
  · rintro H1 rfl
    have G2 := G1.new hD (.lst (List.replicate 4 (.int (lev qa : Nat))))
    have D2 : (upd (upd H p (.tup [.int (a : Nat), .int (b : Nat), .int (c : Nat), .int (d : Nat)])) D (.lst (List.replicate 4 (.int (lev qa : Nat))))) D = some (.lst (List.replicate 4 (.int (lev qa : Nat)))) := upd_same
    refine ⟨_, rfl, _, rfl, D, _, _, _, rfl, rfl, SqL.of D2, rfl, (by show 1 ≤ sizeLine; decide), fun l hl => ?_⟩
    have nDl : D ≠ l := ne_of_none D2 hl
    have G3 := G2.new hl (.lst [.int (lev qa : Nat)])
    refine ⟨l, 4, _, rfl, rfl, upd_same, by decide, by decide, (by show 1 * 4 ≤ sizeLine; decide), fun r hr2 => ?_⟩
    have G4 := G3.new hr2 (.lst (List.replicate 4 (.int (lev qa : Nat))))
    have nDr : D ≠ r := ne_of_none (by rw [upd_ne nDl]; exact D2) hr2
    refine ⟨_, _, .lst (SqL.of (by rw [upd_ne nDr, upd_ne nDl]; exact D2)) (.cons (.int _) (.cons (.int _) (.cons (.int _) (.cons (.int _) .nil)))), .lst (SqL.of upd_same) (.cons (.int _) (.cons (.int _) (.cons (.int _) (.cons (.int _) .nil)))), shaped4 _, shaped4 _, _, rfl, ?_⟩
    rw [SeqAt.eqv_refl _ (SeqAt.canLay_of_shaped (shaped4 _))]
    refine iteF ?_
    refine ⟨_, rfl, _, _, _, _, rfl, rfl, SqL.of (by rw [upd_ne nDr, upd_ne nDl]; exact D2), rfl, _, _, rfl, rfl, _, rfl, ?_⟩
    rw [decide_eq_false (show ¬ (48 : Int) ≤ (lev qa : Nat) by omega)]
    refine iteF ?_
    obtain ⟨dx4, hg4⟩ := G4.ob
    refine ⟨_, rfl, g, dx4, _, rfl, G4.sub hg4, by rfl, _, rfl, _, rfl, _, rfl, _, rfl, g, w, _, a, b, c, d, qa, qb, qc, qd, rfl, ⟨s, G4⟩, ha, hb, hc, hd, fb, fc, fd, h47, hS, fun i w' O' H' G' er ex sm hi => ?_⟩
    exact k i w' O' H' G' er ex (((s1.trans (same_new (G1.fresh hD) _)).trans ((same_new (G2.fresh hl) _).trans (same_new (G3.fresh hr2) _))).trans sm) hi
end
end Jf
/-! JfG6 -/
set_option autoImplicit true
namespace Jf
open PySem PySem.Spec PyProof.Rows L2
section
variable {P : Program} {w : World} {K : PySem.W.Frag} {mg : Str → Option Value} {base : Heap} {S : Q → Prop}
theorem GVs.first {S : Q → Prop} {g dx d1 d2 d3 d4 d5 d6 : Addr} {F : Hp} (nd : [d1, d2, d3, d4, d5, d6].Nodup) (gn : g ∉ [d1, d2, d3, d4, d5, d6]) (hg : F g = some (.ins (CG K) dx (gfs ⟨d1, d2, d3, d4, d5, d6, [], [], [], []⟩)))
    (f1 : F d1 = some (.dT [])) (f2 : F d2 = some (.lst [])) (f3 : F d3 = some (.lst [])) (f4 : F d4 = some (.lst [])) (f5 : F d5 = some (.lst [])) (f6 : F d6 = some (.dK [])) (bd : Bd S 16777216) (sol : ∀ j s, j ≤ 48 → s ≤ 7 → S (solid j s)) :
    GVs K S g ⟨[], []⟩ ⟨d1, d2, d3, d4, d5, d6, [], [], [], []⟩ (fun a => if a ∈ [d1, d2, d3, d4, d5, d6] then none else F a) F where
  ob := ⟨dx, (if_neg gn).trans hg⟩
  own := fun a m => if_pos m
  out := fun a m => if_neg m
  nd := nd
  hN := f1
  hM := f2
  hL := f3
  hV := f4
  hS := f5
  hP := f6
  hR := fun r hr => (by cases hr)
  lt := rfl
  lm := rfl
  ls := rfl
  lk := rfl
  kv := fun l v => ⟨fun h => (by cases h), fun ⟨i, h, _⟩ => (by cases h)⟩
  made := fun i l h => (by cases h)
  rep := fun i q h => (by cases h)
  spn := fun i q v h => (by cases h)
  cnd := List.nodup_nil
  wfq := fun q m => (by cases m)
  inS := fun q m => (by cases m)
  rws := fun r hr => (by cases hr)
  rnd := List.nodup_nil
  bd := bd
  sol := sol
/-- a new grove: its instance stands at g -/
def spGroveInit (K : PySem.W.Frag) (S : Q → Prop) : Sp := fun vs H Qk _ => ∃ (g dx : Addr), vs = [.ref g] ∧ H g = some (.ins (CG K) dx []) ∧ Bd S 16777216 ∧ (∀ j s, j ≤ 48 → s ≤ 7 → S (solid j s)) ∧
  ∀ (O' H' : Hp), GV K S g ⟨[], []⟩ O' H' → (∀ b o, H b = some o → b ≠ g → O' b = some o) → Qk .non H'
theorem sc_Grove_init : FnScope [("self" : Str)] ["self"] (defScope s_Grove_init) := ⟨rfl, rfl, rfl, by decide +kernel, rfl, by decide +kernel, by decide +kernel⟩
theorem ok_Grove_init (T : Txt K mg) : Ok P w K mg base ("Grove", some "__init__") ["self"] 1 (spGroveInit K S) := by
  refine Ok.of T.d_Grove_init sc_Grove_init (fun vs H Q E h => ?_) (fun cdv A outer s H vs Q E hr h => ?_)
  · obtain ⟨g, dx, rfl, _⟩ := h
    rfl
  obtain ⟨g, dx, rfl, hg, bd, sol, k⟩ := h
  refine ⟨_, (pss_cons (ps_fld (pv 0) pe_dnewT rfl)
      (pss_cons (ps_fld (pv 0) (pe_lst pa_nil) rfl)
      (pss_cons (ps_fld (pv 0) (pe_lst pa_nil) rfl)
      (pss_cons (ps_fld (pv 0) (pe_lst pa_nil) rfl)
      (pss_cons (ps_fld (pv 0) (pe_lst pa_nil) rfl)
      (pss_one (ps_fld (pv 0) pe_dnewK rfl))))))), ?_⟩
  intro d1 h1
  have g1 : g ≠ d1 := ne_of_none hg h1
  refine ⟨_, rfl, g, _, dx, [], rfl, (by rw [upd_ne g1]; exact hg), T.c_Grove, T.n_Grove_numbers, (by show 0 < 1000; decide), ?_⟩
  refine ⟨Nat.zero_le _, fun d2 h2 => ?_⟩
  have g2 : g ≠ d2 := ne_of_none upd_same h2
  refine ⟨_, rfl, g, _, dx, _, rfl, (by rw [upd_ne g2]; exact upd_same), T.c_Grove, T.n_Grove_made, (by show 1 < 1000; decide), ?_⟩
  refine ⟨Nat.zero_le _, fun d3 h3 => ?_⟩
  have g3 : g ≠ d3 := ne_of_none upd_same h3
  refine ⟨_, rfl, g, _, dx, _, rfl, (by rw [upd_ne g3]; exact upd_same), T.c_Grove, T.n_Grove_levels, (by show 2 < 1000; decide), ?_⟩
  refine ⟨Nat.zero_le _, fun d4 h4 => ?_⟩
  have g4 : g ≠ d4 := ne_of_none upd_same h4
  refine ⟨_, rfl, g, _, dx, _, rfl, (by rw [upd_ne g4]; exact upd_same), T.c_Grove, T.n_Grove_lives, (by show 3 < 1000; decide), ?_⟩
  refine ⟨Nat.zero_le _, fun d5 h5 => ?_⟩
  have g5 : g ≠ d5 := ne_of_none upd_same h5
  refine ⟨_, rfl, g, _, dx, _, rfl, (by rw [upd_ne g5]; exact upd_same), T.c_Grove, T.n_Grove_spans, (by show 4 < 1000; decide), ?_⟩
  intro d6 h6
  have g6 : g ≠ d6 := ne_of_none upd_same h6
  refine ⟨_, rfl, g, _, dx, _, rfl, (by rw [upd_ne g6]; exact upd_same), T.c_Grove, T.n_Grove_plain, (by show 5 < 1000; decide), ?_⟩
  -- the six stand apart
  have n2 : d1 ≠ d2 := fun e => by rw [← e, upd_ne (Ne.symm g1), upd_same] at h2; cases h2
  have n31 : d1 ≠ d3 := fun e => by rw [← e, upd_ne (Ne.symm g1), upd_ne n2, upd_ne (Ne.symm g1), upd_same] at h3; cases h3
  have n32 : d2 ≠ d3 := fun e => by rw [← e, upd_ne (Ne.symm g2), upd_same] at h3; cases h3
  have n41 : d1 ≠ d4 := fun e => by rw [← e, upd_ne (Ne.symm g1), upd_ne n31, upd_ne (Ne.symm g1), upd_ne n2, upd_ne (Ne.symm g1), upd_same] at h4; cases h4
  have n42 : d2 ≠ d4 := fun e => by rw [← e, upd_ne (Ne.symm g2), upd_ne n32, upd_ne (Ne.symm g2), upd_same] at h4; cases h4
  have n43 : d3 ≠ d4 := fun e => by rw [← e, upd_ne (Ne.symm g3), upd_same] at h4; cases h4
  have n51 : d1 ≠ d5 := fun e => by rw [← e, upd_ne (Ne.symm g1), upd_ne n41, upd_ne (Ne.symm g1), upd_ne n31, upd_ne (Ne.symm g1), upd_ne n2, upd_ne (Ne.symm g1), upd_same] at h5; cases h5
  have n52 : d2 ≠ d5 := fun e => by rw [← e, upd_ne (Ne.symm g2), upd_ne n42, upd_ne (Ne.symm g2), upd_ne n32, upd_ne (Ne.symm g2), upd_same] at h5; cases h5
  have n53 : d3 ≠ d5 := fun e => by rw [← e, upd_ne (Ne.symm g3), upd_ne n43, upd_ne (Ne.symm g3), upd_same] at h5; cases h5
  have n54 : d4 ≠ d5 := fun e => by rw [← e, upd_ne (Ne.symm g4), upd_same] at h5; cases h5
  have n61 : d1 ≠ d6 := fun e => by rw [← e, upd_ne (Ne.symm g1), upd_ne n51, upd_ne (Ne.symm g1), upd_ne n41, upd_ne (Ne.symm g1), upd_ne n31, upd_ne (Ne.symm g1), upd_ne n2, upd_ne (Ne.symm g1), upd_same] at h6; cases h6
  have n62 : d2 ≠ d6 := fun e => by rw [← e, upd_ne (Ne.symm g2), upd_ne n52, upd_ne (Ne.symm g2), upd_ne n42, upd_ne (Ne.symm g2), upd_ne n32, upd_ne (Ne.symm g2), upd_same] at h6; cases h6
  have n63 : d3 ≠ d6 := fun e => by rw [← e, upd_ne (Ne.symm g3), upd_ne n53, upd_ne (Ne.symm g3), upd_ne n43, upd_ne (Ne.symm g3), upd_same] at h6; cases h6
  have n64 : d4 ≠ d6 := fun e => by rw [← e, upd_ne (Ne.symm g4), upd_ne n54, upd_ne (Ne.symm g4), upd_same] at h6; cases h6
  have n65 : d5 ≠ d6 := fun e => by rw [← e, upd_ne (Ne.symm g5), upd_same] at h6; cases h6
  -- they are new
  have z1 : ∀ b o, H b = some o → b ≠ d1 := fun b o e => ne_of_none e h1
  have z2 : ∀ b o, H b = some o → b ≠ d2 := fun b o e q => by
    have := z1 b o e
    subst q
    by_cases hb : b = g
    · exact g2 hb.symm
    · rw [upd_ne hb, upd_ne this, e] at h2; cases h2
  have z3 : ∀ b o, H b = some o → b ≠ d3 := fun b o e q => by
    have a1 := z1 b o e
    have a2 := z2 b o e
    subst q
    by_cases hb : b = g
    · exact g3 hb.symm
    · rw [upd_ne hb, upd_ne a2, upd_ne hb, upd_ne a1, e] at h3; cases h3
  have z4 : ∀ b o, H b = some o → b ≠ d4 := fun b o e q => by
    have a1 := z1 b o e
    have a2 := z2 b o e
    have a3 := z3 b o e
    subst q
    by_cases hb : b = g
    · exact g4 hb.symm
    · rw [upd_ne hb, upd_ne a3, upd_ne hb, upd_ne a2, upd_ne hb, upd_ne a1, e] at h4; cases h4
  have z5 : ∀ b o, H b = some o → b ≠ d5 := fun b o e q => by
    have a1 := z1 b o e
    have a2 := z2 b o e
    have a3 := z3 b o e
    have a4 := z4 b o e
    subst q
    by_cases hb : b = g
    · exact g5 hb.symm
    · rw [upd_ne hb, upd_ne a4, upd_ne hb, upd_ne a3, upd_ne hb, upd_ne a2, upd_ne hb, upd_ne a1, e] at h5; cases h5
  have z6 : ∀ b o, H b = some o → b ≠ d6 := fun b o e q => by
    have a1 := z1 b o e
    have a2 := z2 b o e
    have a3 := z3 b o e
    have a4 := z4 b o e
    have a5 := z5 b o e
    subst q
    by_cases hb : b = g
    · exact g6 hb.symm
    · rw [upd_ne hb, upd_ne a5, upd_ne hb, upd_ne a4, upd_ne hb, upd_ne a3, upd_ne hb, upd_ne a2, upd_ne hb, upd_ne a1, e] at h6; cases h6
  have nd : [d1, d2, d3, d4, d5, d6].Nodup := by simp [n2, n31, n32, n41, n42, n43, n51, n52, n53, n54, n61, n62, n63, n64, n65]
  refine k _ _ ⟨_, GVs.first (dx := dx) nd (by simp [g1, g2, g3, g4, g5, g6]) ?_ ?_ ?_ ?_ ?_ ?_ ?_ bd sol⟩ (fun b o e ne => ?_)
  · rw [upd_same]
    rfl
  · rw [upd_ne (Ne.symm g1), upd_ne n61, upd_ne (Ne.symm g1), upd_ne n51, upd_ne (Ne.symm g1), upd_ne n41, upd_ne (Ne.symm g1), upd_ne n31, upd_ne (Ne.symm g1), upd_ne n2, upd_ne (Ne.symm g1), upd_same]
  · rw [upd_ne (Ne.symm g2), upd_ne n62, upd_ne (Ne.symm g2), upd_ne n52, upd_ne (Ne.symm g2), upd_ne n42, upd_ne (Ne.symm g2), upd_ne n32, upd_ne (Ne.symm g2), upd_same]
  · rw [upd_ne (Ne.symm g3), upd_ne n63, upd_ne (Ne.symm g3), upd_ne n53, upd_ne (Ne.symm g3), upd_ne n43, upd_ne (Ne.symm g3), upd_same]
  · rw [upd_ne (Ne.symm g4), upd_ne n64, upd_ne (Ne.symm g4), upd_ne n54, upd_ne (Ne.symm g4), upd_same]
  · rw [upd_ne (Ne.symm g5), upd_ne n65, upd_ne (Ne.symm g5), upd_same]
  · rw [upd_ne (Ne.symm g6), upd_same]
  · have a1 := z1 b o e
    have a2 := z2 b o e
    have a3 := z3 b o e
    have a4 := z4 b o e
    have a5 := z5 b o e
    have a6 := z6 b o e
    have n : b ∉ [d1, d2, d3, d4, d5, d6] := by simp [a1, a2, a3, a4, a5, a6]
    refine (if_neg n).trans ?_
    rw [upd_ne ne, upd_ne a6, upd_ne ne, upd_ne a5, upd_ne ne, upd_ne a4, upd_ne ne, upd_ne a3, upd_ne ne, upd_ne a2, upd_ne ne, upd_ne a1]
    exact e
end
end Jf
/-! JfM4 -/
set_option linter.all false
set_option autoImplicit false
/-! Fields that are built: a cell set, lists of cells; alignment. -/
namespace Jf
theorem lev_cw (f : Pl) (k : Nat) : lev (cw f k) = k := lev_win f k _ _
theorem wf_cw (f : Pl) (k : Nat) : wf k (cw f k) := wf_win f k _ _
theorem al_zero (j : Nat) : al j 0 := Int.dvd_zero _
theorem al_p2 {i j : Nat} (h : j ≤ i + 2) : al j (p2 i) := by
  show p2 (j - 2) ∣ p2 i
  exact ⟨p2 (i - (j - 2)), by rw [← p2_add]; congr 1; omega⟩
theorem al_neg {j : Nat} {x : Int} (h : al j x) : al j (-x) := Int.dvd_neg.mpr h
theorem al_add {j : Nat} {x y : Int} (h : al j x) (h' : al j y) : al j (x + y) := Int.dvd_add h h'
theorem al_mul {j : Nat} {x : Int} (h : al j x) (c : Int) : al j (c * x) := Int.dvd_trans h (Int.dvd_mul_left _ _)
theorem al_down {i j : Nat} (h : i ≤ j) {x : Int} (a : al j x) : al i x := by
  have e : p2 (i - 2) ∣ p2 (j - 2) := ⟨p2 ((j - 2) - (i - 2)), by rw [← p2_add]; congr 1; omega⟩
  exact Int.dvd_trans e a
/-- all windows of f at places that fit their level are among S -/
def Fam (S : Q → Prop) (f : Pl) : Prop := ∀ (j : Nat) (x y : Int), j ≤ 48 → al j x → al j y → S (win f j x y)
theorem Fam.cw {S : Q → Prop} {f : Pl} (h : Fam S f) {k : Nat} (hk : k ≤ 48) : S (cw f k) := h k _ _ hk (al_neg (al_p2 (by omega))) (al_neg (al_p2 (by omega)))
/-! ### a cell is set -/
def setP (f : Pl) (px py : Int) (s : Nat) : Pl := fun x y => if x = px ∧ y = py then s else f x y
theorem setP_at (f : Pl) (px py : Int) (s : Nat) : setP f px py s px py = s := if_pos ⟨rfl, rfl⟩
theorem setP_ne {f : Pl} {px py x y : Int} {s : Nat} (h : ¬ (x = px ∧ y = py)) : setP f px py s x y = f x y := if_neg h
/-- a window that the place is not in is as it was -/
theorem win_setP_out {f : Pl} {px py : Int} {s k : Nat} {X Y : Int} (h : px < X ∨ X + p2 k ≤ px ∨ py < Y ∨ Y + p2 k ≤ py) : win (setP f px py s) k X Y = win f k X Y := by
  refine win_ext fun i j h1 h2 h3 h4 => ?_
  exact setP_ne (by omega)
theorem setP_bnd {f : Pl} {B : Int} (h : bnd f B) {px py : Int} {s : Nat} (hx : -B ≤ px ∧ px < B) (hy : -B ≤ py ∧ py < B) : bnd (setP f px py s) B := fun x y e => by
  by_cases c : x = px ∧ y = py
  · omega
  · rw [setP_ne c] at e; exact h x y e
theorem setP_sup {f : Pl} {k : Nat} (h : sup f k) {px py : Int} {s : Nat} (hx : -(p2 (k - 1)) ≤ px ∧ px < p2 (k - 1)) (hy : -(p2 (k - 1)) ≤ py ∧ py < p2 (k - 1)) : sup (setP f px py s) k := fun x y e => by
  by_cases c : x = px ∧ y = py
  · omega
  · rw [setP_ne c] at e; exact h x y e
/-- the field of a list of cells -/
def plOf (L : List (Int × Int × Nat)) : Pl := L.foldl (fun f c => setP f c.1 c.2.1 c.2.2) zeroPl
theorem plOf_snoc (L : List (Int × Int × Nat)) (c : Int × Int × Nat) : plOf (L ++ [c]) = setP (plOf L) c.1 c.2.1 c.2.2 := by
  unfold plOf
  rw [List.foldl_append]
  rfl
theorem plOf_bnd {B : Int} {L : List (Int × Int × Nat)} (hL : ∀ c ∈ L, -B ≤ c.1 ∧ c.1 < B ∧ -B ≤ c.2.1 ∧ c.2.1 < B) : bnd (plOf L) B := by
  suffices h : ∀ (L : List (Int × Int × Nat)) (f : Pl), bnd f B → (∀ c ∈ L, -B ≤ c.1 ∧ c.1 < B ∧ -B ≤ c.2.1 ∧ c.2.1 < B) → bnd (L.foldl (fun f c => setP f c.1 c.2.1 c.2.2) f) B from h L zeroPl (fun x y e => (e rfl).elim) hL
  intro L
  induction L with
  | nil => intro f hf _; exact hf
  | cons c r ih =>
    intro f hf hL
    have hc := hL c (List.mem_cons_self ..)
    exact ih _ (setP_bnd hf ⟨hc.1, hc.2.1⟩ hc.2.2) fun d hd => hL d (List.mem_cons_of_mem _ hd)
/-- what the field of a list tells, where no place comes twice -/
theorem plOf_mem {L : List (Int × Int × Nat)} (nd : (L.map fun c => (c.1, c.2.1)).Nodup) {x y : Int} {s : Nat} (h : (x, y, s) ∈ L) : plOf L x y = s := by
  suffices hh : ∀ (L : List (Int × Int × Nat)) (f : Pl), (L.map fun c => (c.1, c.2.1)).Nodup → ((x, y, s) ∈ L → L.foldl (fun f c => setP f c.1 c.2.1 c.2.2) f x y = s) ∧ ((∀ c ∈ L, ¬ (x = c.1 ∧ y = c.2.1)) → L.foldl (fun f c => setP f c.1 c.2.1 c.2.2) f x y = f x y) from (hh L zeroPl nd).1 h
  intro L
  induction L with
  | nil => intro f _; exact ⟨fun m => (by cases m), fun _ => rfl⟩
  | cons c r ih =>
    intro f nd
    rw [List.map_cons] at nd
    obtain ⟨n1, n2⟩ := List.nodup_cons.mp nd
    obtain ⟨i1, i2⟩ := ih (setP f c.1 c.2.1 c.2.2) n2
    refine ⟨fun m => ?_, fun m => ?_⟩
    · rcases List.mem_cons.mp m with e | m
      · have z : ∀ d ∈ r, ¬ (x = d.1 ∧ y = d.2.1) := fun d hd e' => n1 (List.mem_map.mpr ⟨d, hd, by rw [← e]; show (d.1, d.2.1) = (x, y); rw [e'.1, e'.2]⟩)
        show r.foldl _ (setP f c.1 c.2.1 c.2.2) x y = s
        rw [i2 z, ← e]
        exact setP_at f x y s
      · exact i1 m
    · have z := m c (List.mem_cons_self ..)
      show r.foldl _ (setP f c.1 c.2.1 c.2.2) x y = f x y
      rw [i2 fun d hd => m d (List.mem_cons_of_mem _ hd)]
      exact setP_ne z
theorem plOf_out {L : List (Int × Int × Nat)} {x y : Int} (h : ∀ c ∈ L, ¬ (x = c.1 ∧ y = c.2.1)) : plOf L x y = 0 := by
  suffices hh : ∀ (L : List (Int × Int × Nat)) (f : Pl), (∀ c ∈ L, ¬ (x = c.1 ∧ y = c.2.1)) → L.foldl (fun f c => setP f c.1 c.2.1 c.2.2) f x y = f x y from hh L zeroPl h
  intro L
  induction L with
  | nil => intro f _; rfl
  | cons c r ih =>
    intro f m
    show r.foldl _ (setP f c.1 c.2.1 c.2.2) x y = f x y
    rw [ih _ fun d hd => m d (List.mem_cons_of_mem _ hd)]
    exact setP_ne (m c (List.mem_cons_self ..))
end Jf
/-! JfF1 -/
set_option autoImplicit true
set_option Elab.async false
set_option linter.all false
set_option maxRecDepth 100000
set_option maxHeartbeats 4000000
/-! Fields: meeting, middle_of, widened, trimmed. -/
namespace Jf
open PySem PySem.Spec PyProof.Rows L2
/-- a number of the square q comes back; the grove may have grown, all else stands -/
def Gives (K : PySem.W.Frag) (S : Q → Prop) (g : Addr) (w : GWd) (O : Hp) (q : Q) (Qk : VK) : Prop := ∀ (i : Nat) (w' : GWd) (O' H' : Hp), GV K S g w' O' H' → ExC w w' → Same O O' → w'.cs[i]? = some q → Qk (.int (i : Nat)) H'
section
variable {P : Program} {w : World} {K : PySem.W.Frag} {mg : Str → Option Value} {base : Heap} {S : Q → Prop}
def spMeeting (K : PySem.W.Frag) (S : Q → Prop) : Sp := fun vs H Qk _ => ∃ (g : Addr) (w : GWd) (O : Hp) (a b c d : Nat) (a0 a1 a2 a3 b0 b1 b2 b3 c0 c1 c2 c3 d0 d1 d2 d3 : Q), vs = [.ref g, .int (a : Nat), .int (b : Nat), .int (c : Nat), .int (d : Nat)] ∧ GV K S g w O H ∧
  w.cs[a]? = some (.node a0 a1 a2 a3) ∧ w.cs[b]? = some (.node b0 b1 b2 b3) ∧ w.cs[c]? = some (.node c0 c1 c2 c3) ∧ w.cs[d]? = some (.node d0 d1 d2 d3) ∧ wf (lev a3) b2 ∧ wf (lev a3) c1 ∧ wf (lev a3) d0 ∧ lev a3 ≤ 47 ∧ S (.node a3 b2 c1 d0) ∧ Gives K S g w O (.node a3 b2 c1 d0) Qk
theorem sc_meeting : FnScope [("grove" : Str), ("a" : Str), ("b" : Str), ("c" : Str), ("d" : Str), ("one" : Str), ("two" : Str), ("three" : Str), ("four" : Str)] ["grove", "a", "b", "c", "d"] (defScope s_meeting) := ⟨rfl, rfl, rfl, by decide +kernel, rfl, by decide +kernel, by decide +kernel⟩
theorem ok_meeting (T : Txt K mg) : Ok P w K mg base ("meeting", none) ["grove", "a", "b", "c", "d"] 4 (spMeeting K S) := by
  obtain ⟨fd_Grove_quarters, G_Grove_quarters, b_Grove_quarters, k_Grove_quarters⟩ := ok_Grove_quarters (P := P) (w := w) (base := base) (S := S) T
  obtain ⟨fd_Grove_knit, G_Grove_knit, b_Grove_knit, k_Grove_knit⟩ := ok_Grove_knit (P := P) (w := w) (base := base) (S := S) T
  refine Ok.of T.d_meeting sc_meeting (fun vs H Q E h => ?_) (fun cdv A outer s H vs Q E hr h => ?_)
  · obtain ⟨g, w, O, a, b, c, d, _, _, _, _, _, _, _, _, _, _, _, _, _, _, _, _, rfl, _⟩ := h
    rfl
  obtain ⟨g, w, O, a, b, c, d, a0, a1, a2, a3, b0, b1, b2, b3, c0, c1, c2, c3, d0, d1, d2, d3, rfl, ⟨s, G⟩, ha, hb, hc, hd, f2, f1, f0, h47, hS, k⟩ := h
  obtain ⟨dx, hg⟩ := G.ob
  refine ⟨_, (pss_cons (ps_set (i := 5) sc_meeting.nd rfl (Or.inl rfl) (pe_ix ix_tup (pe_meth (pv 0) T.c_Grove T.m_Grove_quarters G_Grove_quarters (hr.mono (by omega)) b_Grove_quarters .nil pass0 (pa_cons (pv 1) pa_nil)) pe_int (fun _ _ => rfl)))
      (pss_cons (ps_set (i := 6) sc_meeting.nd rfl (Or.inl rfl) (pe_ix ix_tup (pe_meth (pv 0) T.c_Grove T.m_Grove_quarters G_Grove_quarters (hr.mono (by omega)) b_Grove_quarters .nil pass0 (pa_cons (pv 2) pa_nil)) pe_int (fun _ _ => rfl)))
      (pss_cons (ps_set (i := 7) sc_meeting.nd rfl (Or.inl rfl) (pe_ix ix_tup (pe_meth (pv 0) T.c_Grove T.m_Grove_quarters G_Grove_quarters (hr.mono (by omega)) b_Grove_quarters .nil pass0 (pa_cons (pv 3) pa_nil)) pe_int (fun _ _ => rfl)))
      (pss_cons (ps_set (i := 8) sc_meeting.nd rfl (Or.inl rfl) (pe_ix ix_tup (pe_meth (pv 0) T.c_Grove T.m_Grove_quarters G_Grove_quarters (hr.mono (by omega)) b_Grove_quarters .nil pass0 (pa_cons (pv 4) pa_nil)) pe_int (fun _ _ => rfl)))
      (pss_one (ps_ret (pe_meth (pv 0) T.c_Grove T.m_Grove_knit G_Grove_knit (hr.mono (by omega)) b_Grove_knit .nil pass0 (pa_cons (pv 5) (pa_cons (pv 6) (pa_cons (pv 7) (pa_cons (pv 8) pa_nil))))))))))), ?_⟩
  refine ⟨_, rfl, g, dx, _, rfl, G.sub hg, by rfl, _, rfl, g, w, O, a, _, _, _, _, rfl, ⟨s, G⟩, ha, fun p1 _ _ _ i3 e1 _ _ _ z3 => ?_⟩
  refine ⟨_, _, _, _, rfl, rfl, SqT.of (G.sub e1), rfl, ?_⟩
  refine ⟨_, rfl, g, dx, _, rfl, G.sub hg, by rfl, _, rfl, g, w, O, b, _, _, _, _, rfl, ⟨s, G⟩, hb, fun p2 _ _ i2 _ e2 _ _ z2 _ => ?_⟩
  refine ⟨_, _, _, _, rfl, rfl, SqT.of (G.sub e2), rfl, ?_⟩
  refine ⟨_, rfl, g, dx, _, rfl, G.sub hg, by rfl, _, rfl, g, w, O, c, _, _, _, _, rfl, ⟨s, G⟩, hc, fun p3 _ i1 _ _ e3 _ z1 _ _ => ?_⟩
  refine ⟨_, _, _, _, rfl, rfl, SqT.of (G.sub e3), rfl, ?_⟩
  refine ⟨_, rfl, g, dx, _, rfl, G.sub hg, by rfl, _, rfl, g, w, O, d, _, _, _, _, rfl, ⟨s, G⟩, hd, fun p4 i0 _ _ _ e4 z0 _ _ _ => ?_⟩
  refine ⟨_, _, _, _, rfl, rfl, SqT.of (G.sub e4), rfl, ?_⟩
  exact ⟨_, rfl, g, dx, _, rfl, G.sub hg, by rfl, _, rfl, _, rfl, _, rfl, _, rfl, g, w, O, i3, i2, i1, i0, a3, b2, c1, d0, rfl, ⟨s, G⟩, z3, z2, z1, z0, f2, f1, f0, h47, hS, fun i w' O' H' G' _ ex sm hi => k i w' O' H' G' ex sm hi⟩
/-- the middle of a field's square of a level from 2 on -/
def spMiddle (K : PySem.W.Frag) (S : Q → Prop) : Sp := fun vs H Qk _ => ∃ (g : Addr) (w : GWd) (O : Hp) (i : Nat) (f : Pl) (k : Nat), vs = [.ref g, .int (i : Nat)] ∧ GV K S g w O H ∧ w.cs[i]? = some (cw f (k + 2)) ∧ k ≤ 46 ∧ S (cw f (k + 1)) ∧ Gives K S g w O (cw f (k + 1)) Qk
theorem sc_middle_of : FnScope [("grove" : Str), ("square" : Str), ("four" : Str)] ["grove", "square"] (defScope s_middle_of) := ⟨rfl, rfl, rfl, by decide +kernel, rfl, by decide +kernel, by decide +kernel⟩
theorem ok_middle_of (T : Txt K mg) : Ok P w K mg base ("middle_of", none) ["grove", "square"] 5 (spMiddle K S) := by
  obtain ⟨fd_Grove_quarters, G_Grove_quarters, b_Grove_quarters, k_Grove_quarters⟩ := ok_Grove_quarters (P := P) (w := w) (base := base) (S := S) T
  obtain ⟨fd_meeting, G_meeting, b_meeting, k_meeting⟩ := ok_meeting (P := P) (w := w) (base := base) (S := S) T
  refine Ok.of T.d_middle_of sc_middle_of (fun vs H Q E h => ?_) (fun cdv A outer s H vs Q E hr h => ?_)
  · obtain ⟨g, w, O, i, f, k, rfl, _⟩ := h
    rfl
  obtain ⟨g, w, O, i, f, k, rfl, ⟨s, G⟩, hi, h46, hS, q⟩ := h
  obtain ⟨dx, hg⟩ := G.ob
  rw [cw16] at hi
  refine ⟨_, (pss_cons (ps_set (i := 2) sc_middle_of.nd rfl (Or.inl rfl) (pe_meth (pv 0) T.c_Grove T.m_Grove_quarters G_Grove_quarters (hr.mono (by omega)) b_Grove_quarters .nil pass0 (pa_cons (pv 1) pa_nil)))
      (pss_one (ps_ret (pe_call G_meeting (hr.mono (by omega)) (by rfl) T.g_meeting k_meeting b_meeting .nil pass0 (pa_cons (pv 0) (pa_cons (pe_ix ix_tup (pv 2) pe_int (fun _ _ => rfl)) (pa_cons (pe_ix ix_tup (pv 2) pe_int (fun _ _ => rfl)) (pa_cons (pe_ix ix_tup (pv 2) pe_int (fun _ _ => rfl)) (pa_cons (pe_ix ix_tup (pv 2) pe_int (fun _ _ => rfl)) pa_nil))))))))), ?_⟩
  refine ⟨_, rfl, g, dx, _, rfl, G.sub hg, by rfl, _, rfl, g, w, O, i, _, _, _, _, rfl, ⟨s, G⟩, hi, fun p i0 i1 i2 i3 e z0 z1 z2 z3 => ?_⟩
  refine ⟨_, rfl, _, rfl, _, _, _, _, rfl, rfl, SqT.of (G.sub e), rfl, _, rfl, _, _, _, _, rfl, rfl, SqT.of (G.sub e), rfl, _, rfl, _, _, _, _, rfl, rfl, SqT.of (G.sub e), rfl, _, rfl, _, _, _, _, rfl, rfl, SqT.of (G.sub e), rfl, ?_⟩
  have fw : ∀ x y, wf (lev (win f k (-(p2 k)) (-(p2 k)))) (win f k x y) := fun x y => by rw [lev_win]; exact wf_win f k x y
  refine ⟨g, w, O, i0, i1, i2, i3, _, _, _, _, _, _, _, _, _, _, _, _, _, _, _, _, rfl, ⟨s, G⟩, z0, z1, z2, z3, fw _ _, fw _ _, fw _ _, by rw [lev_win]; omega, ?_, ?_⟩
  · rw [← cw4]; exact hS
  · rw [← cw4]; exact q
/-- the square of one level more about the same middle -/
def spWidened (K : PySem.W.Frag) (S : Q → Prop) : Sp := fun vs H Qk _ => ∃ (g : Addr) (w : GWd) (O : Hp) (i : Nat) (f : Pl) (k : Nat), vs = [.ref g, .int (i : Nat)] ∧ GV K S g w O H ∧ w.cs[i]? = some (cw f k) ∧ 1 ≤ k ∧ k ≤ 47 ∧ sup f k ∧ Fam S f ∧ Gives K S g w O (cw f (k + 1)) Qk
theorem sc_widened : FnScope [("grove" : Str), ("square" : Str), ("level" : Str), ("four" : Str), ("no" : Str), ("one" : Str), ("two" : Str), ("three" : Str), ("last" : Str)] ["grove", "square"] (defScope s_widened) := ⟨rfl, rfl, rfl, by decide +kernel, rfl, by decide +kernel, by decide +kernel⟩
theorem ok_widened (T : Txt K mg) : Ok P w K mg base ("widened", none) ["grove", "square"] 5 (spWidened K S) := by
  obtain ⟨fd_Grove_level_of, G_Grove_level_of, b_Grove_level_of, k_Grove_level_of⟩ := ok_Grove_level_of (P := P) (w := w) (base := base) (S := S) T
  obtain ⟨fd_Grove_quarters, G_Grove_quarters, b_Grove_quarters, k_Grove_quarters⟩ := ok_Grove_quarters (P := P) (w := w) (base := base) (S := S) T
  obtain ⟨fd_Grove_even, G_Grove_even, b_Grove_even, k_Grove_even⟩ := ok_Grove_even (P := P) (w := w) (base := base) (S := S) T
  obtain ⟨fd_Grove_knit, G_Grove_knit, b_Grove_knit, k_Grove_knit⟩ := ok_Grove_knit (P := P) (w := w) (base := base) (S := S) T
  refine Ok.of T.d_widened sc_widened (fun vs H Q E h => ?_) (fun cdv A outer s H vs Q E hr h => ?_)
  · obtain ⟨g, w, O, i, f, k, rfl, _⟩ := h
    rfl
  obtain ⟨g, w, O, i, f, k, rfl, ⟨s, G⟩, hi, h1, h47, hs, hF, q⟩ := h
  obtain ⟨dx, hg⟩ := G.ob
  obtain ⟨k, rfl⟩ : ∃ j, k = j + 1 := ⟨k - 1, by omega⟩
  refine ⟨_, (pss_cons (ps_set (i := 2) sc_widened.nd rfl (Or.inl rfl) (pe_meth (pv 0) T.c_Grove T.m_Grove_level_of G_Grove_level_of (hr.mono (by omega)) b_Grove_level_of .nil pass0 (pa_cons (pv 1) pa_nil)))
      (pss_cons (ps_if (PW.pt (pw_or (pt_cmpR op_eq (pv 2) pe_int (nomark _)) (pw_or1 (pt_cmpR op_ge (pv 2) (pe_glob (v := .int 48) (by rfl) T.i_HIGHEST.choose_spec ⟨_, rfl⟩) (nomark _))))) (pss_one ps_never) pss_nil)
      (pss_cons (ps_set (i := 3) sc_widened.nd rfl (Or.inl rfl) (pe_meth (pv 0) T.c_Grove T.m_Grove_quarters G_Grove_quarters (hr.mono (by omega)) b_Grove_quarters .nil pass0 (pa_cons (pv 1) pa_nil)))
      (pss_cons (ps_set (i := 4) sc_widened.nd rfl (Or.inl rfl) (pe_meth (pv 0) T.c_Grove T.m_Grove_even G_Grove_even (hr.mono (by omega)) b_Grove_even .nil pass0 (pa_cons (pe_op op_sub (pv 2) pe_int) (pa_cons pe_int pa_nil))))
      (pss_cons (ps_set (i := 5) sc_widened.nd rfl (Or.inl rfl) (pe_meth (pv 0) T.c_Grove T.m_Grove_knit G_Grove_knit (hr.mono (by omega)) b_Grove_knit .nil pass0 (pa_cons (pv 4) (pa_cons (pv 4) (pa_cons (pv 4) (pa_cons (pe_ix ix_tup (pv 3) pe_int (fun _ _ => rfl)) pa_nil))))))
      (pss_cons (ps_set (i := 6) sc_widened.nd rfl (Or.inl rfl) (pe_meth (pv 0) T.c_Grove T.m_Grove_knit G_Grove_knit (hr.mono (by omega)) b_Grove_knit .nil pass0 (pa_cons (pv 4) (pa_cons (pv 4) (pa_cons (pe_ix ix_tup (pv 3) pe_int (fun _ _ => rfl)) (pa_cons (pv 4) pa_nil))))))
      (pss_cons (ps_set (i := 7) sc_widened.nd rfl (Or.inl rfl) (pe_meth (pv 0) T.c_Grove T.m_Grove_knit G_Grove_knit (hr.mono (by omega)) b_Grove_knit .nil pass0 (pa_cons (pv 4) (pa_cons (pe_ix ix_tup (pv 3) pe_int (fun _ _ => rfl)) (pa_cons (pv 4) (pa_cons (pv 4) pa_nil))))))
      (pss_cons (ps_set (i := 8) sc_widened.nd rfl (Or.inl rfl) (pe_meth (pv 0) T.c_Grove T.m_Grove_knit G_Grove_knit (hr.mono (by omega)) b_Grove_knit .nil pass0 (pa_cons (pe_ix ix_tup (pv 3) pe_int (fun _ _ => rfl)) (pa_cons (pv 4) (pa_cons (pv 4) (pa_cons (pv 4) pa_nil))))))
      (pss_one (ps_ret (pe_meth (pv 0) T.c_Grove T.m_Grove_knit G_Grove_knit (hr.mono (by omega)) b_Grove_knit .nil pass0 (pa_cons (pv 5) (pa_cons (pv 6) (pa_cons (pv 7) (pa_cons (pv 8) pa_nil))))))))))))))), ?_⟩
  refine ⟨_, rfl, g, dx, _, rfl, G.sub hg, by rfl, _, rfl, g, w, O, i, _, rfl, ⟨s, G⟩, hi, ?_⟩
  rw [lev_cw]
  refine ⟨_, rfl, rfl, _, rfl, ?_⟩
  have z : ¬ V.int ((k + 1 : Nat) : Int) = V.int 0 := fun e => by injection e with e; omega
  rw [decide_eq_false z]
  refine iteF ⟨_, rfl, _, _, rfl, rfl, _, rfl, ?_⟩
  rw [decide_eq_false (show ¬ (48 : Int) ≤ ((k + 1 : Nat) : Int) by omega)]
  refine iteF ?_
  have hi4 : w.cs[i]? = some _ := hi.trans (congrArg some (cw4 f k))
  refine ⟨_, rfl, g, dx, _, rfl, G.sub hg, by rfl, _, rfl, g, w, O, i, _, _, _, _, rfl, ⟨s, G⟩, hi4, fun p i0 i1 i2 i3 e z0 z1 z2 z3 => ?_⟩
  refine ⟨_, rfl, g, dx, _, rfl, G.sub hg, by rfl, _, rfl, _, _, rfl, rfl, g, w, O, k, 0, ?_, ⟨s, G⟩, by omega, by omega, fun n w1 O1 H1 ⟨s1, G1⟩ x1 m1 hn => ?_⟩
  · show [V.ref g, V.int (((k + 1 : Nat) : Int) - 1), V.int 0] = [V.ref g, V.int (k : Nat), V.int ((0 : Nat) : Int)]
    rw [show ((k + 1 : Nat) : Int) - 1 = (k : Nat) by omega]
    rfl
  have e1 := m1 _ _ e
  obtain ⟨dx1, hg1⟩ := G1.ob
  -- the four corners
  have corner : ∀ x y, al (k + 1) x → al (k + 1) y → S (win f (k + 1) x y) := fun x y hx hy => hF (k + 1) x y (by omega) hx hy
  have W := cw_widen hs
  have e0 : cw f (k + 2) = win f (k + 2) (-(p2 (k + 1))) (-(p2 (k + 1))) := rfl
  have W' := W
  rw [e0, win_succ] at W'
  injection W' with c1 c2 c3 c4
  have a1 : al (k + 1) (-(p2 (k + 1))) := al_neg (al_p2 (by omega))
  have a2 : al (k + 1) (-(p2 (k + 1)) + p2 (k + 1)) := al_add a1 (al_p2 (by omega))
  have S1 := corner _ _ a1 a1
  rw [c1] at S1
  have S2 := corner _ _ a2 a1
  rw [c2] at S2
  have S3 := corner _ _ a1 a2
  rw [c3] at S3
  have S4 := corner _ _ a2 a2
  rw [c4] at S4
  have S5 := hF.cw (k := k + 2) (by omega)
  rw [W] at S5
  have lz : lev (solid k 0) = k := lev_solid 0 k
  have fz : wf (lev (solid k 0)) (solid k 0) := by rw [lz]; exact wf_solid k 0
  have fw : ∀ x y, wf (lev (solid k 0)) (win f k x y) := fun x y => by rw [lz]; exact wf_win f k x y
  have fw' : ∀ x y x' y', wf (lev (win f k x y)) (win f k x' y') := fun x y x' y' => by rw [lev_win]; exact wf_win f k x' y'
  have fz' : ∀ x y, wf (lev (win f k x y)) (solid k 0) := fun x y => by rw [lev_win]; exact wf_solid k 0
  refine ⟨_, rfl, g, dx1, _, rfl, G1.sub hg1, by rfl, _, rfl, _, rfl, _, rfl, _, rfl, _, _, _, _, rfl, rfl, SqT.of (G1.sub e1), rfl, g, w1, O1, n, n, n, i0, _, _, _, _, rfl, ⟨s1, G1⟩, hn, hn, hn, x1 _ _ z0, fz, fz, fw _ _, by rw [lz]; omega, S1, fun j1 w2 O2 H2 ⟨s2, G2⟩ _ x2 m2 y1 => ?_⟩
  obtain ⟨dx2, hg2⟩ := G2.ob
  refine ⟨_, rfl, g, dx2, _, rfl, G2.sub hg2, by rfl, _, rfl, _, rfl, _, rfl, _, _, _, _, rfl, rfl, SqT.of (G2.sub (m2 _ _ e1)), rfl, _, rfl, g, w2, O2, n, n, i1, n, _, _, _, _, rfl, ⟨s2, G2⟩, x2 _ _ hn, x2 _ _ hn, x2 _ _ (x1 _ _ z1), x2 _ _ hn, fz, fw _ _, fz, by rw [lz]; omega, S2, fun j2 w3 O3 H3 ⟨s3, G3⟩ _ x3 m3 y2 => ?_⟩
  obtain ⟨dx3, hg3⟩ := G3.ob
  refine ⟨_, rfl, g, dx3, _, rfl, G3.sub hg3, by rfl, _, rfl, _, rfl, _, _, _, _, rfl, rfl, SqT.of (G3.sub (m3 _ _ (m2 _ _ e1))), rfl, _, rfl, _, rfl, g, w3, O3, n, i2, n, n, _, _, _, _, rfl, ⟨s3, G3⟩, x3 _ _ (x2 _ _ hn), x3 _ _ (x2 _ _ (x1 _ _ z2)), x3 _ _ (x2 _ _ hn), x3 _ _ (x2 _ _ hn), fw _ _, fz, fz, by rw [lz]; omega, S3, fun j3 w4 O4 H4 ⟨s4, G4⟩ _ x4 m4 y3 => ?_⟩
  obtain ⟨dx4, hg4⟩ := G4.ob
  refine ⟨_, rfl, g, dx4, _, rfl, G4.sub hg4, by rfl, _, rfl, _, _, _, _, rfl, rfl, SqT.of (G4.sub (m4 _ _ (m3 _ _ (m2 _ _ e1)))), rfl, _, rfl, _, rfl, _, rfl, g, w4, O4, i3, n, n, n, _, _, _, _, rfl, ⟨s4, G4⟩, x4 _ _ (x3 _ _ (x2 _ _ (x1 _ _ z3))), x4 _ _ (x3 _ _ (x2 _ _ hn)), x4 _ _ (x3 _ _ (x2 _ _ hn)), x4 _ _ (x3 _ _ (x2 _ _ hn)), fz' _ _, fz' _ _, fz' _ _, by rw [lev_win]; omega, S4, fun j4 w5 O5 H5 ⟨s5, G5⟩ _ x5 m5 y4 => ?_⟩
  obtain ⟨dx5, hg5⟩ := G5.ob
  refine ⟨_, rfl, g, dx5, _, rfl, G5.sub hg5, by rfl, _, rfl, _, rfl, _, rfl, _, rfl, g, w5, O5, j1, j2, j3, j4, _, _, _, _, rfl, ⟨s5, G5⟩, x5 _ _ (x4 _ _ (x3 _ _ y1)), x5 _ _ (x4 _ _ y2), x5 _ _ y3, y4, ?_, ?_, ?_, ?_, S5, fun i w' O' H' G' _ ex sm hi => ?_⟩
  · show wf (lev (solid k 0) + 1) _
    rw [lz]
    exact ⟨wf_solid k 0, wf_solid k 0, wf_win f k _ _, wf_solid k 0⟩
  · show wf (lev (solid k 0) + 1) _
    rw [lz]
    exact ⟨wf_solid k 0, wf_win f k _ _, wf_solid k 0, wf_solid k 0⟩
  · show wf (lev (solid k 0) + 1) _
    rw [lz]
    exact ⟨wf_win f k _ _, wf_solid k 0, wf_solid k 0, wf_solid k 0⟩
  · show lev (solid k 0) + 1 ≤ 47
    rw [lz]; omega
  · rw [← W] at hi
    exact q i w' O' H' G' (x1.trans (x2.trans (x3.trans (x4.trans (x5.trans ex))))) (m1.trans (m2.trans (m3.trans (m4.trans (m5.trans sm))))) hi
/-- the field's own square: of the least level -/
def spTrimmed (K : PySem.W.Frag) (S : Q → Prop) : Sp := fun vs H Qk _ => ∃ (g : Addr) (w : GWd) (O : Hp) (i : Nat) (f : Pl) (k : Nat), vs = [.ref g, .int (i : Nat)] ∧ GV K S g w O H ∧ w.cs[i]? = some (cw f k) ∧ 1 ≤ k ∧ k ≤ 48 ∧ sup f k ∧ Fam S f ∧ ∀ k', isF f k' → k' ≤ k → Gives K S g w O (cw f k') Qk
theorem sc_trimmed : FnScope [("grove" : Str), ("square" : Str), ("inner" : Str)] ["grove", "square"] (defScope s_trimmed) := ⟨rfl, rfl, rfl, by decide +kernel, rfl, by decide +kernel, by decide +kernel⟩
theorem ok_trimmed (T : Txt K mg) : Ok P w K mg base ("trimmed", none) ["grove", "square"] 6 (spTrimmed K S) := by
  obtain ⟨fd_Grove_level_of, G_Grove_level_of, b_Grove_level_of, k_Grove_level_of⟩ := ok_Grove_level_of (P := P) (w := w) (base := base) (S := S) T
  obtain ⟨fd_Grove_living, G_Grove_living, b_Grove_living, k_Grove_living⟩ := ok_Grove_living (P := P) (w := w) (base := base) (S := S) T
  obtain ⟨fd_middle_of, G_middle_of, b_middle_of, k_middle_of⟩ := ok_middle_of (P := P) (w := w) (base := base) (S := S) T
  refine Ok.of T.d_trimmed sc_trimmed (fun vs H Q E h => ?_) (fun cdv A outer s H vs Q E hr h => ?_)
  · obtain ⟨g, w, O, i, f, k, rfl, _⟩ := h
    rfl
  obtain ⟨g, w, O, i, f, k, rfl, ⟨s, G⟩, hi, h1, h48, hs, hF, q⟩ := h
  obtain ⟨dx, hg⟩ := G.ob
  refine ⟨_, (pss_cons (ps_if (pt_cmpR op_eq (pe_meth (pv 0) T.c_Grove T.m_Grove_level_of G_Grove_level_of (hr.mono (by omega)) b_Grove_level_of .nil pass0 (pa_cons (pv 1) pa_nil)) pe_int (nomark _)) (pss_one ps_never) pss_nil)
      (pss_cons (ps_while PassesOwn.never (pt_cmpR op_gt (pe_meth (pv 0) T.c_Grove T.m_Grove_level_of G_Grove_level_of (hr.mono (by omega)) b_Grove_level_of .nil pass0 (pa_cons (pv 1) pa_nil)) pe_int (nomark _)) (pss_cons (ps_set (i := 2) sc_trimmed.nd rfl (Or.inl rfl) (pe_call G_middle_of (hr.mono (by omega)) (by rfl) T.g_middle_of k_middle_of b_middle_of .nil pass0 (pa_cons (pv 0) (pa_cons (pv 1) pa_nil))))
      (pss_cons (ps_if (pt_cmpR op_lt (pe_meth (pv 0) T.c_Grove T.m_Grove_living G_Grove_living (hr.mono (by omega)) b_Grove_living .nil pass0 (pa_cons (pv 2) pa_nil)) (pe_meth (pv 0) T.c_Grove T.m_Grove_living G_Grove_living (hr.mono (by omega)) b_Grove_living .nil pass0 (pa_cons (pv 1) pa_nil)) (nomark _)) (pss_one (ps_ret (pv 1))) pss_nil)
      (pss_one (ps_set (i := 1) sc_trimmed.nd rfl (Or.inl rfl) (pv 2))))))
      (pss_one (ps_ret (pv 1))))), ?_⟩
  refine ⟨_, rfl, g, dx, _, rfl, G.sub hg, by rfl, _, rfl, g, w, O, i, _, rfl, ⟨s, G⟩, hi, rfl, _, rfl, ?_⟩
  rw [lev_cw]
  have z : ¬ V.int ((k : Nat) : Int) = V.int 0 := fun e => by injection e with e; omega
  rw [decide_eq_false z]
  refine iteF ?_
  refine ⟨fun m σ' H' => ∃ (w1 : GWd) (O1 : Hp) (j : Nat) (v : Option V), σ' = [some (.ref g), some (.int (j : Nat)), v] ∧ GV K S g w1 O1 H' ∧ ExC w w1 ∧ Same O O1 ∧ w1.cs[j]? = some (cw f m) ∧ 1 ≤ m ∧ m ≤ k ∧ sup f m, ⟨k, w, O, i, none, rfl, ⟨s, G⟩, ExC.refl w, Same.refl O, hi, h1, Nat.le_refl k, hs⟩, ?_⟩
  rintro m σ1 H1 ⟨w1, O1, j, v, rfl, ⟨s1, G1⟩, x1, m1, hj, hm1, hmk, hsm⟩
  obtain ⟨dx1, hg1⟩ := G1.ob
  refine ⟨_, rfl, g, dx1, _, rfl, G1.sub hg1, by rfl, _, rfl, g, w1, O1, j, _, rfl, ⟨s1, G1⟩, hj, _, _, rfl, rfl, _, rfl, ite2 (fun c => ?_) (fun c => ?_)⟩
  · have c1 : (1 : Int) < (lev (cw f m) : Nat) := of_decide_eq_true c
    rw [lev_cw] at c1
    obtain ⟨m, rfl⟩ : ∃ n, m = n + 2 := ⟨m - 2, by omega⟩
    refine ⟨fun σ' H' => ∃ m', m' < m + 2 ∧ ∃ (w1 : GWd) (O1 : Hp) (j : Nat) (v : Option V), σ' = [some (.ref g), some (.int (j : Nat)), v] ∧ GV K S g w1 O1 H' ∧ ExC w w1 ∧ Same O O1 ∧ w1.cs[j]? = some (cw f m') ∧ 1 ≤ m' ∧ m' ≤ k ∧ sup f m', fun _ _ h => h, ?_⟩
    refine ⟨_, rfl, _, rfl, g, w1, O1, j, f, m, rfl, ⟨s1, G1⟩, hj, by omega, hF.cw (by omega), fun n w2 O2 H2 ⟨s2, G2⟩ x2 m2 hn => ?_⟩
    obtain ⟨dx2, hg2⟩ := G2.ob
    have hj2 := x2 _ _ hj
    refine ⟨_, rfl, g, dx2, _, rfl, G2.sub hg2, by rfl, _, rfl, g, w2, O2, n, _, rfl, ⟨s2, G2⟩, hn, _, rfl, g, dx2, _, rfl, G2.sub hg2, by rfl, _, rfl, g, w2, O2, j, _, rfl, ⟨s2, G2⟩, hj2, _, _, rfl, rfl, _, rfl, ite2 (fun c2 => ?_) (fun c2 => ?_)⟩
    · have c3 : ((lives (cw f (m + 1)) : Nat) : Int) < (lives (cw f (m + 2)) : Nat) := of_decide_eq_true c2
      have c4 := (lives_inner hsm).2.mp (by omega)
      exact ⟨_, rfl, q (m + 2) ⟨by omega, hsm, .inr c4⟩ hmk j w2 O2 H2 ⟨s2, G2⟩ (x1.trans x2) (m1.trans m2) hj2⟩
    · have c3 : ¬ ((lives (cw f (m + 1)) : Nat) : Int) < (lives (cw f (m + 2)) : Nat) := of_decide_eq_false (Bool.eq_false_iff.mpr c2)
      have c4 : sup f (m + 1) := Classical.byContradiction fun n => c3 (by have := (lives_inner hsm).2.mpr n; omega)
      exact ⟨_, rfl, m + 1, by omega, w2, O2, n, _, rfl, ⟨s2, G2⟩, x1.trans x2, m1.trans m2, hn, by omega, by omega, c4⟩
  · have c1 : ¬ (1 : Int) < (lev (cw f m) : Nat) := of_decide_eq_false (Bool.eq_false_iff.mpr c)
    rw [lev_cw] at c1
    obtain rfl : m = 1 := by omega
    exact ⟨_, rfl, q 1 ⟨by omega, hsm, .inl rfl⟩ hmk j w1 O1 H1 ⟨s1, G1⟩ x1 m1 hj⟩
end
end Jf
/-! JfB1 -/
set_option autoImplicit true
/-! Boxes: what is refused, what lies within, the clipped part. -/
namespace Jf
open PySem PySem.Spec PyProof.Rows L2
def bxT (b : Bx) : List V := [.int b.1, .int b.2.1, .int b.2.2.1, .int b.2.2.2]
def lies (b : Bx) (h : Int) : Bool := !(decide (b.1 < -h) || decide (b.1 + b.2.2.1 > h)) && (decide (-h ≤ b.2.1) && decide (b.2.1 + b.2.2.2 ≤ h))
def clip (b : Bx) (n : Int) : Option Bx := if max b.1 0 ≥ min (b.1 + b.2.2.1) n ∨ max b.2.1 0 ≥ min (b.2.1 + b.2.2.2) n then none else some (max b.1 0, max b.2.1 0, min (b.1 + b.2.2.1) n - max b.1 0, min (b.2.1 + b.2.2.2) n - max b.2.1 0)
section
variable {P : Program} {w : World} {K : PySem.W.Frag} {mg : Str → Option Value} {base : Heap} {S : Q → Prop}
def spRefuseBox : Sp := fun vs H Qk _ => ∃ (p : Addr) (b : Bx), vs = [.ref p] ∧ H p = some (.tup (bxT b)) ∧ 0 ≤ b.2.2.1 ∧ 0 ≤ b.2.2.2 ∧ Qk .non H
theorem sc_refuse_box : FnScope [("box" : Str)] ["box"] (defScope s_refuse_box) := ⟨rfl, rfl, rfl, by decide +kernel, rfl, by decide +kernel, by decide +kernel⟩
theorem ok_refuse_box (T : Txt K mg) : Ok P w K mg base ("refuse_box", none) ["box"] 1 spRefuseBox := by
  refine Ok.of T.d_refuse_box sc_refuse_box (fun vs H Q E h => ?_) (fun cdv A outer s H vs Q E hr h => ?_)
  · obtain ⟨p, b, rfl, _⟩ := h
    rfl
  obtain ⟨p, b, rfl, hp, h1, h2, q⟩ := h
  refine ⟨_, (pss_one (ps_if (PW.pt (pw_or (pt_cmpR op_lt (pe_ix ix_tup (pv 0) pe_int (fun _ _ => rfl)) pe_int (nomark _)) (pw_or1 (pt_cmpR op_lt (pe_ix ix_tup (pv 0) pe_int (fun _ _ => rfl)) pe_int (nomark _))))) (pss_one ps_never) pss_nil)), ?_⟩
  refine ⟨_, rfl, _, _, _, _, rfl, rfl, SqT.of hp, rfl, _, _, rfl, rfl, _, rfl, ?_⟩
  rw [decide_eq_false (show ¬ b.2.2.1 < 0 by omega)]
  refine iteF ⟨_, rfl, _, _, _, _, rfl, rfl, SqT.of hp, rfl, _, _, rfl, rfl, _, rfl, ?_⟩
  rw [decide_eq_false (show ¬ b.2.2.2 < 0 by omega)]
  exact iteF q
def spLies : Sp := fun vs H Qk _ => ∃ (p : Addr) (b : Bx) (h : Int), vs = [.ref p, .int h] ∧ H p = some (.tup (bxT b)) ∧ Qk (.bl (lies b h)) H
theorem sc_lies_within : FnScope [("box" : Str), ("half" : Str)] ["box", "half"] (defScope s_lies_within) := ⟨rfl, rfl, rfl, by decide +kernel, rfl, by decide +kernel, by decide +kernel⟩
theorem ok_lies_within (T : Txt K mg) : Ok P w K mg base ("lies_within", none) ["box", "half"] 1 spLies := by
  refine Ok.of T.d_lies_within sc_lies_within (fun vs H Q E h => ?_) (fun cdv A outer s H vs Q E hr h => ?_)
  · obtain ⟨p, b, h, rfl, _⟩ := h
    rfl
  obtain ⟨p, b, h, rfl, hp, q⟩ := h
  refine ⟨_, (pss_cons (ps_if (PW.pt (pw_or (pt_cmpR op_lt (pe_ix ix_tup (pv 0) pe_int (fun _ _ => rfl)) (pe_un un_neg (pv 1)) (nomark _)) (pw_or1 (pt_cmpR op_gt (pe_op op_add (pe_ix ix_tup (pv 0) pe_int (fun _ _ => rfl)) (pe_ix ix_tup (pv 0) pe_int (fun _ _ => rfl))) (pv 1) (nomark _))))) (pss_one (ps_ret pe_bl)) pss_nil)
      (pss_one (ps_ret (pe_and (pe_cmpR op_le (pe_un un_neg (pv 1)) (pe_ix ix_tup (pv 0) pe_int (fun _ _ => rfl)) (nomark _)) (pe_one (pe_cmpR op_le (pe_op op_add (pe_ix ix_tup (pv 0) pe_int (fun _ _ => rfl)) (pe_ix ix_tup (pv 0) pe_int (fun _ _ => rfl))) (pv 1) (nomark _))))))), ?_⟩
  unfold lies at q
  refine ⟨_, rfl, _, _, _, _, rfl, rfl, SqT.of hp, rfl, _, rfl, _, rfl, _, _, rfl, rfl, _, rfl, ?_⟩
  by_cases c1 : b.1 < -h
  · rw [decide_eq_true c1] at q ⊢
    exact iteT (iteT q)
  rw [decide_eq_false c1] at q ⊢
  refine iteF ⟨_, rfl, _, _, _, _, rfl, rfl, SqT.of hp, rfl, _, rfl, _, _, _, _, rfl, rfl, SqT.of hp, rfl, _, _, rfl, rfl, _, rfl, _, _, rfl, rfl, _, rfl, ?_⟩
  by_cases c2 : b.1 + b.2.2.1 > h
  · rw [decide_eq_true c2] at q ⊢
    exact iteT q
  rw [decide_eq_false c2] at q ⊢
  refine iteF ?_
  refine ⟨_, rfl, _, rfl, _, rfl, _, _, _, _, rfl, rfl, SqT.of hp, rfl, _, _, rfl, rfl, _, rfl, ?_⟩
  by_cases c3 : -h ≤ b.2.1
  · rw [decide_eq_true c3] at q ⊢
    refine iteT ⟨_, rfl, _, _, _, _, rfl, rfl, SqT.of hp, rfl, _, rfl, _, _, _, _, rfl, rfl, SqT.of hp, rfl, _, _, rfl, rfl, _, rfl, _, _, rfl, rfl, ?_⟩
    exact q
  · rw [decide_eq_false c3] at q ⊢
    exact iteF q
def spFromCorner (K : PySem.W.Frag) (S : Q → Prop) : Sp := fun vs H Qk _ => ∃ (g : Addr) (w : GWd) (O : Hp) (i : Nat) (j : Nat) (q : Q) (p : Addr) (b : Bx), vs = [.ref g, .int (i : Nat), .ref p] ∧ GV K S g w O H ∧ w.cs[i]? = some q ∧ lev q = j + 1 ∧ H p = some (.tup (bxT b)) ∧
  ∀ r H', H r = none → H' = upd H r (.tup (bxT (b.1 + p2 j, b.2.1 + p2 j, b.2.2.1, b.2.2.2))) → Qk (.ref r) H'
theorem sc_from_corner : FnScope [("grove" : Str), ("field" : Str), ("box" : Str), ("half" : Str)] ["grove", "field", "box"] (defScope s_from_corner) := ⟨rfl, rfl, rfl, by decide +kernel, rfl, by decide +kernel, by decide +kernel⟩
theorem ok_from_corner (T : Txt K mg) : Ok P w K mg base ("from_corner", none) ["grove", "field", "box"] 4 (spFromCorner K S) := by
  obtain ⟨fd_Grove_level_of, G_Grove_level_of, b_Grove_level_of, k_Grove_level_of⟩ := ok_Grove_level_of (P := P) (w := w) (base := base) (S := S) T
  refine Ok.of T.d_from_corner sc_from_corner (fun vs H Q E h => ?_) (fun cdv A outer s H vs Q E hr h => ?_)
  · obtain ⟨g, w, O, i, j, q, p, b, rfl, _⟩ := h
    rfl
  obtain ⟨g, w, O, i, j, q, p, b, rfl, ⟨s, G⟩, hi, hl, hp, k⟩ := h
  obtain ⟨dx, hg⟩ := G.ob
  have h48 := G.lev_le hi
  refine ⟨_, (pss_cons (ps_set (i := 3) sc_from_corner.nd rfl (Or.inl rfl) (pe_op op_fdiv (pe_op op_shl pe_int (pe_meth (pv 0) T.c_Grove T.m_Grove_level_of G_Grove_level_of (hr.mono (by omega)) b_Grove_level_of .nil pass0 (pa_cons (pv 1) pa_nil))) pe_int))
      (pss_one (ps_ret (pe_tup (pa_cons (pe_op op_add (pe_ix ix_tup (pv 2) pe_int (fun _ _ => rfl)) (pv 3)) (pa_cons (pe_op op_add (pe_ix ix_tup (pv 2) pe_int (fun _ _ => rfl)) (pv 3)) (pa_cons (pe_ix ix_tup (pv 2) pe_int (fun _ _ => rfl)) (pa_cons (pe_ix ix_tup (pv 2) pe_int (fun _ _ => rfl)) pa_nil)))))))), ?_⟩
  refine ⟨_, rfl, g, dx, _, rfl, G.sub hg, by rfl, _, rfl, g, w, O, i, q, rfl, ⟨s, G⟩, hi, ?_⟩
  rw [hl]
  refine ⟨_, _, rfl, rfl, shlC (by omega), _, _, rfl, rfl, ⟨by decide, by decide⟩, ?_⟩
  dsimp only
  rw [shl1, show p2 (j + 1) / 2 = p2 j by rw [p2_succ]; omega]
  refine ⟨_, rfl, _, _, _, _, rfl, rfl, SqT.of hp, rfl, _, rfl, _, _, rfl, rfl, _, rfl, _, _, _, _, rfl, rfl, SqT.of hp, rfl, _, rfl, _, _, rfl, rfl, _, rfl, _, _, _, _, rfl, rfl, SqT.of hp, rfl, _, rfl, _, _, _, _, rfl, rfl, SqT.of hp, rfl, (by show 4 ≤ sizeLine; decide), fun r hr2 => ?_⟩
  exact k r _ hr2 rfl
def spClipped : Sp := fun vs H Qk _ => ∃ (p : Addr) (b : Bx) (n : Int), vs = [.ref p, .int n] ∧ H p = some (.tup (bxT b)) ∧
  (clip b n = none → Qk .non H) ∧ ∀ c, clip b n = some c → ∀ r, H r = none → Qk (.ref r) (upd H r (.tup (bxT c)))
theorem sc_clipped : FnScope [("box" : Str), ("size" : Str), ("left" : Str), ("top" : Str), ("right" : Str), ("low" : Str)] ["box", "size"] (defScope s_clipped) := ⟨rfl, rfl, rfl, by decide +kernel, rfl, by decide +kernel, by decide +kernel⟩
theorem ok_clipped (T : Txt K mg) : Ok P w K mg base ("clipped", none) ["box", "size"] 1 spClipped := by
  refine Ok.of T.d_clipped sc_clipped (fun vs H Q E h => ?_) (fun cdv A outer s H vs Q E hr h => ?_)
  · obtain ⟨p, b, n, rfl, _⟩ := h
    rfl
  obtain ⟨p, b, n, rfl, hp, q1, q2⟩ := h
  refine ⟨_, (pss_cons (ps_set (i := 2) sc_clipped.nd rfl (Or.inl rfl) (pe_callB (call_max2 rfl) (by rfl) T.f_max (by decide +kernel) (pa_cons (pe_ix ix_tup (pv 0) pe_int (fun _ _ => rfl)) (pa_cons pe_int pa_nil))))
      (pss_cons (ps_set (i := 3) sc_clipped.nd rfl (Or.inl rfl) (pe_callB (call_max2 rfl) (by rfl) T.f_max (by decide +kernel) (pa_cons (pe_ix ix_tup (pv 0) pe_int (fun _ _ => rfl)) (pa_cons pe_int pa_nil))))
      (pss_cons (ps_set (i := 4) sc_clipped.nd rfl (Or.inl rfl) (pe_callB (call_min2 rfl) (by rfl) T.f_min (by decide +kernel) (pa_cons (pe_op op_add (pe_ix ix_tup (pv 0) pe_int (fun _ _ => rfl)) (pe_ix ix_tup (pv 0) pe_int (fun _ _ => rfl))) (pa_cons (pv 1) pa_nil))))
      (pss_cons (ps_set (i := 5) sc_clipped.nd rfl (Or.inl rfl) (pe_callB (call_min2 rfl) (by rfl) T.f_min (by decide +kernel) (pa_cons (pe_op op_add (pe_ix ix_tup (pv 0) pe_int (fun _ _ => rfl)) (pe_ix ix_tup (pv 0) pe_int (fun _ _ => rfl))) (pa_cons (pv 1) pa_nil))))
      (pss_cons (ps_if (PW.pt (pw_or (pt_cmpR op_ge (pv 2) (pv 4) (nomark _)) (pw_or1 (pt_cmpR op_ge (pv 3) (pv 5) (nomark _))))) (pss_one (ps_ret pe_non)) pss_nil)
      (pss_one (ps_ret (pe_tup (pa_cons (pv 2) (pa_cons (pv 3) (pa_cons (pe_op op_sub (pv 4) (pv 2)) (pa_cons (pe_op op_sub (pv 5) (pv 3)) pa_nil)))))))))))), ?_⟩
  refine ⟨_, rfl, _, _, _, _, rfl, rfl, SqT.of hp, rfl, _, _, rfl, ?_⟩
  refine ⟨_, rfl, _, _, _, _, rfl, rfl, SqT.of hp, rfl, _, _, rfl, ?_⟩
  refine ⟨_, rfl, _, _, _, _, rfl, rfl, SqT.of hp, rfl, _, rfl, _, _, _, _, rfl, rfl, SqT.of hp, rfl, _, _, rfl, rfl, _, rfl, _, _, rfl, ?_⟩
  refine ⟨_, rfl, _, _, _, _, rfl, rfl, SqT.of hp, rfl, _, rfl, _, _, _, _, rfl, rfl, SqT.of hp, rfl, _, _, rfl, rfl, _, rfl, _, _, rfl, ?_⟩
  rw [max_if, max_if, min_if, min_if]
  refine ⟨_, rfl, _, rfl, _, _, rfl, rfl, _, rfl, ?_⟩
  unfold clip at q1 q2
  by_cases c1 : max b.1 0 ≥ min (b.1 + b.2.2.1) n
  · rw [if_pos (.inl c1)] at q1
    rw [decide_eq_true c1]
    exact iteT (iteT (q1 rfl))
  rw [decide_eq_false c1]
  refine iteF ⟨_, rfl, _, rfl, _, _, rfl, rfl, _, rfl, ?_⟩
  by_cases c2 : max b.2.1 0 ≥ min (b.2.1 + b.2.2.2) n
  · rw [if_pos (.inr c2)] at q1
    rw [decide_eq_true c2]
    exact iteT (q1 rfl)
  rw [if_neg (fun z => z.elim c1 c2)] at q2
  rw [decide_eq_false c2]
  refine iteF ?_
  refine ⟨_, rfl, _, rfl, _, rfl, _, rfl, _, _, rfl, rfl, _, rfl, _, rfl, _, _, rfl, rfl, (by show 4 ≤ sizeLine; decide), fun r hr2 => ?_⟩
  exact q2 _ rfl r hr2
end
end Jf
/-! JfB2 -/
set_option autoImplicit true
/-! Calls of made functions that were handed over. -/
namespace Jf
open PySem PySem.Spec PyProof.Rows L2 NdefX
/-- a def's promise where some cells of another frame hold ws -/
structure PtOk (P : Program) (w : World) (K : PySem.W.Frag) (mg : Str → Option Value) (base : Heap) (k : Nat) (f : Addr) (fd : FuncData) (ps : List Str) (cl : List (Str × Addr)) (fr : List Str) (ws : List (Option V)) (sp : Sp) : Prop where
  len : ∀ vs H Q E, sp vs H Q E → vs.length = ps.length
  run : ∀ (A : Around) (outer : List Env) (s : Shared) (H : Hp) (args : Args) (us : List Value) (vs : List V) (Q : VK) (E : XK), Room k A → Env0 P w K mg base A outer s H → NdefX.CellsAt cl fr ws s.heap H → (∀ y c, cl.lookup y = some c → c ∉ frs outer) → BindsTo s fd args (ps.zip us) → Vals vs us → sp vs H Q E →
    codeAny (model P w) A (.call (.ref f) args) (CR CX0 outer P w H s Q E) s
section
variable {P : Program} {w : World} {K : PySem.W.Frag} {mg : Str → Option Value} {base : Heap} {cl : List (Str × Addr)} {fr : List Str} {ws : List (Option V)}
theorem ptOk_of {k : Nat} {f : Addr} {x qual : Str} {params : Arguments} {body : List Stmt} {scope : Scope} {fd : FuncData} {N ps : List Str} {sp : Sp} (D : FunD K x qual params body scope [] [] f fd) (S : FnScope N ps scope) (len : ∀ vs H Q E, sp vs H Q E → vs.length = ps.length)
    (hbody : ∀ (cdv : Value) (A : Around) (outer : List Env) (s : Shared) (H : Hp) (vs : List V) (Q : VK) (E : XK), Room k (A.deeper (envOfC qual scope s.heap.objs.size f cdv)) → NdefX.CellsAt cl fr ws s.heap H → (∀ y c, cl.lookup y = some c → c ∉ frs outer) → sp vs H Q E →
      ∃ t, PSs (cxOf CX0 P w K mg base N qual scope f cdv A outer s H E).nox body t ∧ t { nx := fun _ H' => Q .non H', rt := Q } (start N vs) H) :
    PtOk P w K mg base (k + 1) f fd ps cl fr ws sp := by
  obtain ⟨oc, od, dV, kV, doc, pm, an, cdv, ct, osl, rfl, lk, hcd, _, _⟩ := D.ex
  refine ⟨len, fun A outer s H args us vs Q E hr e0 hC hnf hb r hsp => ?_⟩
  have hl := len _ _ _ _ hsp
  have KX : K.In s.heap := e0.mod.kin.keeps fun b o e => (e0.bs b o e).1
  have lim : s.heap.NoLimit := e0.mod.nolimit.keeps fun b o e => (e0.bs b o e).1
  have hkind : ∀ y ∈ ps.zip us, scope.names.lookup y.1 = some .local ∨ (scope.names.lookup y.1 = some .cell ∧ ((cellsFrom (s.heap.objs.size + 1) scope.names []).lookup y.1).isSome = true) := fun ⟨n, v⟩ hy => by
    rcases S.par n (List.of_mem_zip hy).1 with q | q
    · exact .inl q
    · exact .inr ⟨q, PySem.W.cellsFrom_some _ _ _ (.inl q)⟩
  refine codeAny_call_function hr.depth (KX _ _ lk) rfl S.co S.gen rfl (PySem.W.codeRec_of KX hcd) (hb _ _ _ _ ?_)
  refine wpAny_newFunctionEnv_cells S.kind hkind fun env he s1 x => ?_
  subst he
  refine ⟨lim.keeps x.toInCall.keep, codeAny_func ?_⟩
  obtain ⟨t, ht, hq⟩ := hbody cdv A outer s H vs Q E (hr.deeper _) hC hnf hsp
  have ht := PSs.nox ht
  have I : Inv (cxOf CX0 P w K mg base N qual scope f cdv A outer s H E) [] (start N vs) H s1 := inv_start S hr.hd e0 hl r x
  refine wpAny_mono (ht.run [] s1 (start N vs) H _ I hq) (fun fl s' hs => ?_) fun e s' hs => hs
  have fin : ∀ {σ' : L2.St} {H' : Hp} {v : V} {u : Value}, Inv (cxOf CX0 P w K mg base N qual scope f cdv A outer s H E) [] σ' H' s' → RelV v u → Q v H' → CE outer P w H s Q u s' :=
    fun {σ' H' v u} J rv q => ⟨v, H', J.os, J.bare, J.base, J.hok, rv, q⟩
  cases fl with
  | ret u =>
    obtain ⟨v, σ', H', J, rv, q⟩ := hs
    exact fin J rv q
  | next =>
    obtain ⟨σ', H', J, q⟩ := hs
    exact fin (v := V.non) (u := Value.none) J rfl q
  | brk =>
    obtain ⟨_, _, _, q⟩ := hs
    exact False.elim q
  | cont =>
    obtain ⟨_, _, _, q⟩ := hs
    exact False.elim q
end
section
variable {X : Cx} {k j : Nat} {f : Addr} {fd : FuncData} {ps : List Str} {cl : List (Str × Addr)} {fr : List Str} {ws : List (Option V)} {sp : Sp} {t : TA} {x : Str} {e : Expr} {es : List Expr} {p pos : Pos}
/-- what the cells held at the entry they hold still; they are no frames -/
theorem cells_kept (C : NdefX.CellsAt cl fr ws X.s_0.heap X.H_0) (nf : ∀ y c, cl.lookup y = some c → c ∉ X.fs) (hx : X.ex = []) {pins : List (Addr × Obj)} {σ : L2.St} {H : Hp} {s : Shared} (I : Inv X pins σ H s) : NdefX.CellsAt cl fr ws s.heap H ∧ ∀ y c, cl.lookup y = some c → c ∉ frs X.stack := by
  have C' := CellsAt.later C nf (fun y c _ => by rw [hx]; simp) I
  refine ⟨C', fun y c e m => ?_⟩
  rcases List.mem_cons.mp (I.stkSub c m) with z | z
  · obtain ⟨v, o, ho, hd⟩ := (C'.all y c e).2
    obtain ⟨m', ⟨o', es, ep, ho', hd', _⟩, _⟩ := I.loc
    rw [← z, ho] at ho'
    cases ho'
    rw [hd] at hd'
    cases hd'
  · exact nf y c e z
/-- the def with such a promise is called -/
theorem run_pt {pins : List (Addr × Obj)} {σ : L2.St} {H : Hp} {s : Shared} {Q : VK} {us : List Value} {vs : List V} (F : PtOk X.prog X.w X.K X.mg X.base k f fd ps cl fr ws sp) (hr : Room k X.A) (hb : Binds X.K fd ps []) (hC : NdefX.CellsAt cl fr ws s.heap H) (hnf : ∀ y c, cl.lookup y = some c → c ∉ frs X.stack)
    (I : Inv X pins σ H s) (r : Vals vs us) (h : sp vs H Q E0) : wpAny (model X.prog X.w) X.A (call (.ref f) us) (EP X pins σ Q) X.xe s := by
  have hl : us.length = ps.length := by rw [← r.length]; exact F.len _ _ _ _ h
  have hb' := hb s us I.kIn (by rw [List.append_nil]; exact hl)
  rw [List.append_nil] at hb'
  refine wpAny_call (codeAny_mono (F.run X.A X.stack s H ⟨us, []⟩ us vs Q E0 hr I.env0 hC hnf hb' r h) fun r s' hq => ?_)
  cases r with
  | error e => exact hq.elim
  | ok fl =>
    cases fl with
    | ret u => exact I.after hq
    | next => exact False.elim hq
    | brk => exact False.elim hq
    | cont => exact False.elim hq
/-- .. in the frame that was handed the functions -/
theorem pe_callPt (F : PtOk X.prog X.w X.K X.mg X.base k f fd ps cl fr ws sp) (hr : Room k X.A) (hg : L2.Gl X x) (hm : X.mg x = some (.ref f)) (hk : PySem.W.keepIn X.K (.ref f) = true) (hb : Binds X.K fd ps []) (C : NdefX.CellsAt cl fr ws X.s_0.heap X.H_0) (nf : ∀ y c, cl.lookup y = some c → c ∉ X.fs) (hx : X.ex = [])
    (ha : PA X (e :: es) t) (hdb : (x == ("__debug__" : Str)) = false := by decide) (he : starEach (e :: es) X.env = (false, eval e X.env) :: starEach es X.env := by rfl) (hpl : (backTo pos (starEach es X.env)).any (·.1) = false := by rfl) :
    PE X (.Call (.Name x p) (e :: es) [] pos) (tCall sp [] E0 t) := by
  refine ⟨fun pins s σ H Q I h => ?_⟩
  refine wpAny_Call_Name_kw (ld_glob I hg hm ?_ hdb)
  refine PySem.W.callWith_K (h₀ := X.base) I.ok.mod.kin hk (thn (ha.run pos pins s σ H _ I h) fun us s1 ⟨vs, H1, I1, r, q⟩ => ⟨I1.kIn, ?_⟩) he hpl
  obtain ⟨c1, c2⟩ := cells_kept C nf hx I1
  have q : sp (vs ++ []) H1 Q E0 := q
  rw [List.append_nil] at q
  show wpAny _ _ (call (.ref f) us) _ _ _
  exact run_pt F hr hb c1 c2 I1 r q
/-- a function that was handed over is called -/
def tClo (i : Nat) (f : Addr) (F : NF) (sp : Sp) (t : TA) : TE := fun σ H Q => σ[i]? = some (some (.ref f)) ∧ H f = some (FnO f F) ∧ t σ H fun vs H1 => H1 f = some (FnO f F) ∧ H1 F.c = some (LamX.CodeO F.c F.qual) ∧ sp vs H1 Q E0
theorem pe_clo {F : NF} {i : Nat} {sp : List (Option V) → Sp} (Fn : NOk X.prog X.w X.K X.mg X.base CX0 k f F ps fr sp) (hr : Room k X.A) (C : NdefX.CellsAt F.cl fr ws X.s_0.heap X.H_0) (nf : ∀ y c, F.cl.lookup y = some c → c ∉ X.fs) (hx : X.ex = []) (hN : X.N[i]? = some x) (hv : Vis X.env.scope x) (ha : PA X (e :: es) t)
    (hd : (x == ("__debug__" : Str)) = false := by decide) (hcd : (x == ("__classdict__" : Str)) = false := by decide)
    (he : starEach (e :: es) X.env = (false, eval e X.env) :: starEach es X.env := by rfl) (hpl : (backTo pos (starEach es X.env)).any (·.1) = false := by rfl) :
    PE X (.Call (.Name x p) (e :: es) [] pos) (tClo i f F (sp ws) t) := by
  refine ⟨fun pins s σ H Q I h => ?_⟩
  obtain ⟨hs, hf, ht⟩ := h
  refine wpAny_Call_Name_kw (thn ((pe_var (pos := p) hN hv hd hcd).run pins s σ H (fun v H1 => v = .ref f ∧ H1 = H) I ⟨.ref f, hs, rfl, rfl⟩) fun u s1 ⟨v, H1, I1, r1, q1⟩ => ?_)
  obtain ⟨ev, eH⟩ := q1
  subst ev
  rw [eH] at I1
  obtain rfl : u = Value.ref f := r1
  refine PySem.W.callWith_F (first := []) (fnAt_of I1 hf) (thn (ha.run pos pins s1 σ H _ I1 ht) fun us s2 ⟨vs, H2, I2, r, h1, h2, q⟩ => ⟨fnAt_of I2 h1, ?_⟩) he hpl
  show wpAny _ _ (call (.ref f) us) _ _ _
  obtain ⟨c1, _⟩ := cells_kept C nf hx I2
  refine wpAny_call (codeAny_mono (Fn.run X.A X.stack s2 H2 us vs ws Q E0 hr I2.env0 h1 h2 c1 r q) fun r s' hq => ?_)
  cases r with
  | error e => exact hq.elim
  | ok fl =>
    cases fl with
    | ret u => exact I2.after hq
    | next => exact False.elim hq
    | brk => exact False.elim hq
    | cont => exact False.elim hq
end
end Jf
/-! JfB3 -/
set_option autoImplicit true
/-! painted: what it remembers. -/
namespace Jf
open PySem PySem.Spec PyProof.Rows L2 NdefX
def ind (b : Bx) (s : Nat) : Pl := fun x y => if b.1 ≤ x ∧ x < b.1 + b.2.2.1 ∧ b.2.1 ≤ y ∧ y < b.2.1 + b.2.2.2 then s else 0
theorem ind_congr {b b' : Bx} {s : Nat} {x y x' y' : Int} (h : (b.1 ≤ x ∧ x < b.1 + b.2.2.1 ∧ b.2.1 ≤ y ∧ y < b.2.1 + b.2.2.2) ↔ (b'.1 ≤ x' ∧ x' < b'.1 + b'.2.2.1 ∧ b'.2.1 ≤ y' ∧ y' < b'.2.1 + b'.2.2.2)) : ind b s x y = ind b' s x' y' := by
  unfold ind
  by_cases c : b.1 ≤ x ∧ x < b.1 + b.2.2.1 ∧ b.2.1 ≤ y ∧ y < b.2.1 + b.2.2.2
  · rw [if_pos c, if_pos (h.mp c)]
  · rw [if_neg c, if_neg (fun z => c (h.mpr z))]
theorem clip_none {b : Bx} {n : Int} (h : clip b n = none) (s : Nat) {x y : Int} (hx : 0 ≤ x ∧ x < n) (hy : 0 ≤ y ∧ y < n) : ind b s x y = 0 := by
  unfold clip at h
  by_cases c : max b.1 0 ≥ min (b.1 + b.2.2.1) n ∨ max b.2.1 0 ≥ min (b.2.1 + b.2.2.2) n
  · exact if_neg (fun z => by omega)
  · rw [if_neg c] at h; cases h
theorem clip_some {b c : Bx} {n : Int} (h : clip b n = some c) : (c.1 = max b.1 0 ∧ c.2.1 = max b.2.1 0 ∧ c.1 + c.2.2.1 = min (b.1 + b.2.2.1) n ∧ c.2.1 + c.2.2.2 = min (b.2.1 + b.2.2.2) n) ∧ 0 < c.2.2.1 ∧ 0 < c.2.2.2 := by
  obtain ⟨b0, b1, b2, b3⟩ := b
  unfold clip at h
  simp only at h
  by_cases z : max b0 0 ≥ min (b0 + b2) n ∨ max b1 0 ≥ min (b1 + b3) n
  · rw [if_pos z] at h; cases h
  · rw [if_neg z] at h
    obtain rfl := Option.some.inj h
    show (max b0 0 = max b0 0 ∧ max b1 0 = max b1 0 ∧ max b0 0 + (min (b0 + b2) n - max b0 0) = min (b0 + b2) n ∧ max b1 0 + (min (b1 + b3) n - max b1 0) = min (b1 + b3) n) ∧ 0 < min (b0 + b2) n - max b0 0 ∧ 0 < min (b1 + b3) n - max b1 0
    have z1 : ¬ max b0 0 ≥ min (b0 + b2) n := fun q => z (.inl q)
    have z2 : ¬ max b1 0 ≥ min (b1 + b3) n := fun q => z (.inr q)
    exact ⟨⟨rfl, rfl, by omega, by omega⟩, by omega, by omega⟩
theorem clip_ind {b c : Bx} {n : Int} (h : clip b n = some c) (s : Nat) {x y : Int} (hx : 0 ≤ x ∧ x < n) (hy : 0 ≤ y ∧ y < n) : ind c s x y = ind b s x y := by
  obtain ⟨⟨h1, h2, h3, h4⟩, _, _⟩ := clip_some h
  exact ind_congr (by omega)
/-- what may come by of parts of a box of at most 40 by 40 -/
def KB (BX BY : Int) (p : Nat × Bx) : Prop := p.1 < 49 ∧ (p.2.1 = 0 ∨ p.2.1 = BX % p2 p.1) ∧ (p.2.2.1 = 0 ∨ p.2.2.1 = BY % p2 p.1) ∧ (0 ≤ p.2.2.2.1 ∧ p.2.2.2.1 ≤ 40) ∧ (0 ≤ p.2.2.2.2 ∧ p.2.2.2.2 ≤ 40)
theorem KB_bd (BX BY : Int) : Bd (KB BX BY) 329476 := by
  have h : Bd (fun p : Nat × Bx => ∃ j, j < 49 ∧ ∃ a, a < 2 ∧ ∃ b, b < 2 ∧ ∃ u, u < 41 ∧ ∃ v, v < 41 ∧ p = (j, ((if a = 0 then 0 else BX % p2 j), (if b = 0 then 0 else BY % p2 j), ((u : Nat) : Int), ((v : Nat) : Int)))) (49 * (2 * (2 * (41 * (41 * 1))))) :=
    Bd.ex fun j _ => Bd.ex fun a _ => Bd.ex fun b _ => Bd.ex fun u _ => Bd.ex fun v _ => Bd.one fun q q' h h' => h.trans h'.symm
  refine h.mono (fun p hp => ?_) (by omega)
  obtain ⟨j, l, t, u, v⟩ := p
  obtain ⟨h1, h2, h3, h4, h5⟩ := hp
  simp only at h1 h2 h3 h4 h5
  refine ⟨j, h1, (if l = 0 then 0 else 1), by split <;> omega, (if t = 0 then 0 else 1), by split <;> omega, u.toNat, by omega, v.toNat, by omega, ?_⟩
  have e1 : (if (if l = 0 then 0 else 1) = 0 then 0 else BX % p2 j) = l := by
    by_cases z : l = 0
    · rw [if_pos z, if_pos rfl, z]
    · rw [if_neg z, if_neg (by decide)]
      exact (h2.resolve_left z).symm
  have e2 : (if (if t = 0 then 0 else 1) = 0 then 0 else BY % p2 j) = t := by
    by_cases z : t = 0
    · rw [if_pos z, if_pos rfl, z]
    · rw [if_neg z, if_neg (by decide)]
      exact (h3.resolve_left z).symm
  rw [e1, e2, Int.toNat_of_nonneg h4.1, Int.toNat_of_nonneg h5.1]
/-- where a box may lie at a level -/
def BA (j : Nat) (BX : Int) (x w : Int) : Prop := (x ≤ 0 ∨ ∃ c : Int, x = BX + c * p2 j) ∧ w ≤ 40
theorem BA_key {j : Nat} {BX x w l r : Int} (h : BA j BX x w) (hl : l = max x 0) (hr : l + r = min (x + w) (p2 j)) (h0 : 0 < r) : (l = 0 ∨ l = BX % p2 j) ∧ 0 ≤ r ∧ r ≤ 40 := by
  have pj := p2_pos j
  obtain ⟨h1, h2⟩ := h
  refine ⟨?_, by clear h1; omega, by clear h1; omega⟩
  by_cases z : x ≤ 0
  · clear h1
    exact .inl (by omega)
  · obtain ⟨c, hc⟩ := h1.resolve_left z
    clear h1
    have e : BX = l + p2 j * (-c) := by
      have : l = x := by omega
      rw [this, hc, Int.mul_neg, Int.mul_comm c]
      omega
    right
    rw [e, Int.add_mul_emod_self_left]
    exact (Int.emod_eq_of_lt (by omega) (by omega)).symm
theorem BA_down {j : Nat} {BX x w l r : Int} {n : Int} (h : BA (j + 1) BX x w) (hl : l = max x 0) (hr : l + r = min (x + w) (p2 (j + 1))) (h0 : 0 < r) (hn : 0 ≤ n) : BA j BX (l - n * p2 j) r := by
  have pj := p2_pos j
  have ps := p2_succ j
  obtain ⟨h1, h2⟩ := h
  refine ⟨?_, by clear h1; omega⟩
  by_cases z : x ≤ 0
  · clear h1
    left
    have : l = 0 := by omega
    rw [this]
    have := Int.mul_nonneg hn (Int.le_of_lt pj)
    omega
  · obtain ⟨c, hc⟩ := h1.resolve_left z
    clear h1
    right
    refine ⟨2 * c - n, ?_⟩
    have : l = x := by omega
    rw [this, hc, ps, Int.sub_mul]
    have : c * (2 * p2 j) = 2 * c * p2 j := by rw [Int.mul_comm 2 c, Int.mul_assoc]
    omega
/-! ### what is remembered -/
theorem atKey_stored {xs : List (NK × Addr × Value)} {k k' : NK} {a : Addr} {u : Value} {p : Addr × Value} (h : atKey (storedH xs k a u) k' = some p) : (k' = k ∧ p.2 = u) ∨ atKey xs k' = some p := by
  unfold storedH at h
  by_cases c : (atKey xs k).isSome = true
  · rw [if_pos c] at h
    clear c
    induction xs with
    | nil => cases h
    | cons y ys ih =>
      rw [List.map_cons] at h
      have fst : (putAt k u y).1 = y.1 := by unfold putAt; split <;> rfl
      by_cases e : y.1 = k'
      · have e1 : atKey (putAt k u y :: ys.map (putAt k u)) k' = some (putAt k u y).2 := by simp [atKey, List.find?_cons, fst, e]
        rw [e1] at h
        have e2 : atKey (y :: ys) k' = some y.2 := by simp [atKey, List.find?_cons, e]
        by_cases ek : y.1 = k
        · left
          refine ⟨e.symm.trans ek, ?_⟩
          rw [← Option.some.inj h]
          unfold putAt
          rw [if_pos ek]
        · right
          rw [e2, ← Option.some.inj h]
          unfold putAt
          rw [if_neg ek]
      · have e1 : atKey (putAt k u y :: ys.map (putAt k u)) k' = atKey (ys.map (putAt k u)) k' := by simp [atKey, List.find?_cons, fst, e]
        have e2 : atKey (y :: ys) k' = atKey ys k' := by simp [atKey, List.find?_cons, e]
        rw [e1] at h
        rw [e2]
        exact ih h
  · rw [if_neg c] at h
    unfold atKey at h ⊢
    rw [List.find?_append] at h
    cases e : xs.find? (fun x => decide (x.1 = k')) with
    | some y =>
      rw [e] at h
      exact .inr h
    | none =>
      rw [e] at h
      left
      by_cases z : k = k'
      · simp [z] at h
        exact ⟨z.symm, by rw [← h]⟩
      · simp [z] at h
theorem atKey_kept {xs : List (NK × Addr × Value)} {k k' : NK} {a : Addr} {u : Value} (h : (atKey xs k').isSome = true ∨ k' = k) : (atKey (storedH xs k a u) k').isSome = true := by
  unfold storedH
  have any : ∀ (ys : List (NK × Addr × Value)), (atKey ys k').isSome = true ↔ k' ∈ ys.map (·.1) := fun ys => by
    unfold atKey
    rw [Option.isSome_map, List.find?_isSome]
    constructor
    · rintro ⟨x, hx, e⟩
      exact List.mem_map.mpr ⟨x, hx, by simpa using e⟩
    · intro m
      obtain ⟨x, hx, e⟩ := List.mem_map.mp m
      exact ⟨x, hx, by simpa using e⟩
  rw [any] at h ⊢
  by_cases c : (atKey xs k).isSome = true
  · rw [if_pos c]
    have e : (xs.map (putAt k u)).map (·.1) = xs.map (·.1) := by
      rw [List.map_map]
      exact List.map_congr_left fun x _ => by
        show (putAt k u x).1 = x.1
        unfold putAt
        split <;> rfl
    rw [e]
    rcases h with h | h
    · exact h
    · subst h
      unfold atKey at c
      rw [Option.isSome_map, List.find?_isSome] at c
      obtain ⟨x, hx, e⟩ := c
      exact List.mem_map.mpr ⟨x, hx, by simpa using e⟩
  · rw [if_neg c, List.map_append]
    rcases h with h | h
    · exact List.mem_append_left _ h
    · exact List.mem_append_right _ (by rw [h]; exact List.mem_singleton.mpr rfl)
structure NJ (P : Program) (w0 : World) (w : GWd) (O : Hp) (d : Addr) (s : Nat) (BX BY : Int) (xs : List (NK × Addr × Value)) : Prop where
  nd : NDict P w0 O d xs
  ks : ∃ ks : List (Nat × Bx), ks.length = xs.length ∧ ks.Nodup ∧ ∀ p ∈ ks, KB BX BY p ∧ ∃ i : Nat, w.cs[i]? = some (solid p.1 0) ∧ (atKey xs (nkey (i : Int) p.2)).isSome = true
  nv : ∀ k p, atKey xs k = some p → ∃ (i j r : Nat) (b : Bx), k = nkey (i : Int) b ∧ w.cs[i]? = some (solid j 0) ∧ RelV (.int (r : Nat)) p.2 ∧ w.cs[r]? = some (win (ind b s) j 0 0)
section
variable {P : Program} {w0 : World} {w w' : GWd} {O O' : Hp} {d : Addr} {s : Nat} {BX BY : Int} {xs : List (NK × Addr × Value)}
theorem NJ.mono (h : NJ P w0 w O d s BX BY xs) (x : ExC w w') (hd : O' d = O d) (ht : ∀ c ys, O c = some (.tup ys) → O' c = some (.tup ys)) : NJ P w0 w' O' d s BX BY xs := by
  obtain ⟨ks, h1, h2, h3⟩ := h.ks
  refine ⟨h.nd.same hd ht, ⟨ks, h1, h2, fun p hp => ?_⟩, fun k p hk => ?_⟩
  · obtain ⟨a, i, b, c⟩ := h3 p hp
    exact ⟨a, i, x _ _ b, c⟩
  · obtain ⟨i, j, r, b, e, a1, a2, a3⟩ := h.nv k p hk
    exact ⟨i, j, r, b, e, x _ _ a1, a2, x _ _ a3⟩
theorem NJ.room (h : NJ P w0 w O d s BX BY xs) : xs.length < sizeLine := by
  obtain ⟨ks, h1, h2, h3⟩ := h.ks
  have := KB_bd BX BY ks h2 fun p hp => (h3 p hp).1
  have e : sizeLine = 16777216 := sizeLine_eq
  omega
theorem solid_inj {j j' s s' : Nat} (h : solid j s = solid j' s') : j = j' := by
  have := congrArg lev h
  rw [lev_solid, lev_solid] at this
  exact this
theorem NJ.hit (h : NJ P w0 w O d s BX BY xs) {i j : Nat} {b : Bx} (hi : w.cs[i]? = some (solid j 0)) {p : Addr × Value} (hp : atKey xs (nkey (i : Int) b) = some p) : ∃ r : Nat, RelV (.int (r : Nat)) p.2 ∧ w.cs[r]? = some (win (ind b s) j 0 0) := by
  obtain ⟨i', j', r, b', e, a1, a2, a3⟩ := h.nv _ _ hp
  obtain ⟨e1, rfl⟩ := nkey_inj e
  obtain rfl : i = i' := Int.ofNat.inj e1
  rw [hi] at a1
  obtain rfl := solid_inj (Option.some.inj a1)
  exact ⟨r, a2, a3⟩
theorem NJ.put (h : NJ P w0 w O d s BX BY xs) (nd : w.cs.Nodup) {i j r : Nat} {b : Bx} {kt : Addr} {u : Value} (hi : w.cs[i]? = some (solid j 0)) (hk : KeyAt O kt (i : Int) b) (hB : KB BX BY (j, b)) (hu : RelV (.int (r : Nat)) u) (hr : w.cs[r]? = some (win (ind b s) j 0 0)) :
    NJ P w0 w (upd O d (NDO P w0 d (storedH xs (nkey (i : Int) b) kt u))) d s BX BY (storedH xs (nkey (i : Int) b) kt u) := by
  obtain ⟨ks, h1, h2, h3⟩ := h.ks
  refine ⟨ndict_put h.nd hk h.room, ?_, fun k p hp => ?_⟩
  · by_cases c : (atKey xs (nkey (i : Int) b)).isSome = true
    · refine ⟨ks, ?_, h2, fun p hp => ?_⟩
      · unfold storedH
        rw [if_pos c, List.length_map, h1]
      · obtain ⟨a, i', b', c'⟩ := h3 p hp
        exact ⟨a, i', b', atKey_kept (.inl c')⟩
    · have n : (j, b) ∉ ks := fun m => by
        obtain ⟨_, i', b', c'⟩ := h3 _ m
        rw [nd_ix nd b' hi] at c'
        exact c c'
      refine ⟨ks ++ [(j, b)], ?_, nd_snoc h2 n, fun p hp => ?_⟩
      · unfold storedH
        rw [if_neg c, List.length_append, List.length_append, h1]
        rfl
      · rcases List.mem_append.mp hp with hp | hp
        · obtain ⟨a, i', b', c'⟩ := h3 p hp
          exact ⟨a, i', b', atKey_kept (.inl c')⟩
        · rw [List.mem_singleton.mp hp]
          exact ⟨hB, i, hi, atKey_kept (.inr rfl)⟩
  · rcases atKey_stored hp with ⟨rfl, e⟩ | e
    · exact ⟨i, j, r, b, rfl, hi, by rw [e]; exact hu, hr⟩
    · exact h.nv k p e
end
end Jf
/-! JfF2 -/
set_option autoImplicit true
/-! Fields: a cell put in. -/
namespace Jf
open PySem PySem.Spec PyProof.Rows L2
theorem p2_wide {j : Nat} (h : j ≤ 60) (i : Int) : CDivW i (p2 j) := by
  refine wide_div (b := 61) (p2_pos j) ?_ (by decide) (by decide)
  have e := p2_mono (show j ≤ 60 from h)
  have p := p2_pos j
  have z : p2 60 = 1152921504606846976 := by decide
  omega
theorem shl_pred {j : Nat} : (1 : Int) * 2 ^ ((((j + 1 : Nat) : Int) - 1).toNat) = p2 j := by
  rw [show ((j + 1 : Nat) : Int) - 1 = (j : Nat) by omega]
  exact shl1 j
theorem shlP {j : Nat} (h : j ≤ 1000) : CPow 1 (((j + 1 : Nat) : Int) - 1) := ⟨by omega, by omega, by decide⟩
section
variable {P : Program} {w : World} {K : PySem.W.Frag} {mg : Str → Option Value} {base : Heap} {S : Q → Prop}
def spPutIn (K : PySem.W.Frag) (S : Q → Prop) (n : Nat) : Sp := fun vs H Qk _ => ∃ (g : Addr) (w : GWd) (O : Hp) (i : Nat) (f : Pl) (k : Nat) (X Y x y : Int) (l st : Nat), vs = [.ref g, .int (i : Nat), .int x, .int y, .int (l : Nat)] ∧ GV K S g w O H ∧ w.cs[i]? = some (win f k X Y) ∧ w.cs[l]? = some (.leaf st) ∧
  k < n ∧ k ≤ 48 ∧ (0 ≤ x ∧ x < p2 k) ∧ (0 ≤ y ∧ y < p2 k) ∧ al k X ∧ al k Y ∧ Fam S (setP f (X + x) (Y + y) st) ∧ Gives K S g w O (win (setP f (X + x) (Y + y) st) k X Y) Qk
theorem sc_put_in : FnScope [("grove" : Str), ("square" : Str), ("x" : Str), ("y" : Str), ("leaf" : Str), ("level" : Str), ("half" : Str), ("four" : Str), ("at" : Str)] ["grove", "square", "x", "y", "leaf"] (defScope s_put_in) := ⟨rfl, rfl, rfl, by decide +kernel, rfl, by decide +kernel, by decide +kernel⟩
/-- the quarter in which the place lies -/
theorem put_sel {f : Pl} {j : Nat} {X Y x y : Int} {st : Nat} (hx : 0 ≤ x ∧ x < p2 (j + 1)) (hy : 0 ≤ y ∧ y < p2 (j + 1)) (aX : al (j + 1) X) (aY : al (j + 1) Y) {w : GWd} {i0 i1 i2 i3 : Nat}
    (z0 : w.cs[i0]? = some (win f j X Y)) (z1 : w.cs[i1]? = some (win f j (X + p2 j) Y)) (z2 : w.cs[i2]? = some (win f j X (Y + p2 j))) (z3 : w.cs[i3]? = some (win f j (X + p2 j) (Y + p2 j))) :
    ∃ (n i : Nat) (X' Y' : Int), n < 4 ∧ 2 * (y / p2 j) + x / p2 j = (n : Nat) ∧ ([V.int (i0 : Nat), V.int (i1 : Nat), V.int (i2 : Nat), V.int (i3 : Nat)] : List V)[n]? = some (V.int (i : Nat)) ∧ w.cs[i]? = some (win f j X' Y') ∧
      X' + x % p2 j = X + x ∧ Y' + y % p2 j = Y + y ∧ al j X' ∧ al j Y' ∧
      ∀ (i' : Nat) (w' : GWd), ExC w w' → w'.cs[i']? = some (win (setP f (X + x) (Y + y) st) j X' Y') → ∃ j0 j1 j2 j3 : Nat, ([V.int (i0 : Nat), V.int (i1 : Nat), V.int (i2 : Nat), V.int (i3 : Nat)] : List V).set n (V.int (i' : Nat)) = [V.int (j0 : Nat), V.int (j1 : Nat), V.int (j2 : Nat), V.int (j3 : Nat)] ∧
        w'.cs[j0]? = some (win (setP f (X + x) (Y + y) st) j X Y) ∧ w'.cs[j1]? = some (win (setP f (X + x) (Y + y) st) j (X + p2 j) Y) ∧ w'.cs[j2]? = some (win (setP f (X + x) (Y + y) st) j X (Y + p2 j)) ∧ w'.cs[j3]? = some (win (setP f (X + x) (Y + y) st) j (X + p2 j) (Y + p2 j)) := by
  have pj := p2_pos j
  have ps := p2_succ j
  have dlo : ∀ {t : Int}, 0 ≤ t → t < p2 j → t / p2 j = 0 ∧ t % p2 j = t := fun h1 h2 => ⟨Int.ediv_eq_zero_of_lt h1 h2, Int.emod_eq_of_lt h1 h2⟩
  have dhi : ∀ {t : Int}, p2 j ≤ t → t < p2 (j + 1) → t / p2 j = 1 ∧ t % p2 j = t - p2 j := fun {t} h1 h2 => by
    have e : t = (t - p2 j) + p2 j * 1 := by omega
    have a := Int.ediv_eq_zero_of_lt (show 0 ≤ t - p2 j by omega) (show t - p2 j < p2 j by omega)
    have b := Int.emod_eq_of_lt (show 0 ≤ t - p2 j by omega) (show t - p2 j < p2 j by omega)
    constructor
    · rw [e, Int.add_mul_ediv_left _ _ (by omega), a]; rfl
    · rw [e, Int.add_mul_emod_self_left, b]; omega
  have al1 : al j (p2 j) := al_p2 (by omega)
  have aX0 := al_down (show j ≤ j + 1 by omega) aX
  have aY0 := al_down (show j ≤ j + 1 by omega) aY
  by_cases cx : x < p2 j
  · obtain ⟨ex, mx⟩ := dlo hx.1 cx
    by_cases cy : y < p2 j
    · obtain ⟨ey, my⟩ := dlo hy.1 cy
      refine ⟨0, i0, X, Y, by omega, by rw [ex, ey]; rfl, rfl, z0, by rw [mx], by rw [my], aX0, aY0, fun i' w' hE h' => ⟨i', i1, i2, i3, rfl, h', ?_, ?_, ?_⟩⟩ <;> rw [win_setP_out (by omega)]
      · exact hE _ _ z1
      · exact hE _ _ z2
      · exact hE _ _ z3
    · obtain ⟨ey, my⟩ := dhi (by omega) hy.2
      refine ⟨2, i2, X, Y + p2 j, by omega, by rw [ex, ey]; rfl, rfl, z2, by rw [mx], by rw [my]; omega, aX0, al_add aY0 al1, fun i' w' hE h' => ⟨i0, i1, i', i3, rfl, ?_, ?_, h', ?_⟩⟩ <;> rw [win_setP_out (by omega)]
      · exact hE _ _ z0
      · exact hE _ _ z1
      · exact hE _ _ z3
  · obtain ⟨ex, mx⟩ := dhi (by omega) hx.2
    by_cases cy : y < p2 j
    · obtain ⟨ey, my⟩ := dlo hy.1 cy
      refine ⟨1, i1, X + p2 j, Y, by omega, by rw [ex, ey]; rfl, rfl, z1, by rw [mx]; omega, by rw [my], al_add aX0 al1, aY0, fun i' w' hE h' => ⟨i0, i', i2, i3, rfl, ?_, h', ?_, ?_⟩⟩ <;> rw [win_setP_out (by omega)]
      · exact hE _ _ z0
      · exact hE _ _ z2
      · exact hE _ _ z3
    · obtain ⟨ey, my⟩ := dhi (by omega) hy.2
      refine ⟨3, i3, X + p2 j, Y + p2 j, by omega, by rw [ex, ey]; rfl, rfl, z3, by rw [mx]; omega, by rw [my]; omega, al_add aX0 al1, al_add aY0 al1, fun i' w' hE h' => ⟨i0, i1, i2, i', rfl, ?_, ?_, ?_, h'⟩⟩ <;> rw [win_setP_out (by omega)]
      · exact hE _ _ z0
      · exact hE _ _ z1
      · exact hE _ _ z2
theorem ok_put_step (T : Txt K mg) {n : Nat} (ih : Ok P w K mg base ("put_in", none) ["grove", "square", "x", "y", "leaf"] (n + 4) (spPutIn K S n)) : Ok P w K mg base ("put_in", none) ["grove", "square", "x", "y", "leaf"] (n + 4 + 1) (spPutIn K S (n + 1)) := by
  obtain ⟨fd_Grove_level_of, G_Grove_level_of, b_Grove_level_of, k_Grove_level_of⟩ := ok_Grove_level_of (P := P) (w := w) (base := base) (S := S) T
  obtain ⟨fd_Grove_quarters, G_Grove_quarters, b_Grove_quarters, k_Grove_quarters⟩ := ok_Grove_quarters (P := P) (w := w) (base := base) (S := S) T
  obtain ⟨fd_Grove_knit, G_Grove_knit, b_Grove_knit, k_Grove_knit⟩ := ok_Grove_knit (P := P) (w := w) (base := base) (S := S) T
  obtain ⟨fd_put_in, G_put_in, b_put_in, k_put_in⟩ := ih
  refine Ok.of T.d_put_in sc_put_in (fun vs H Q E h => ?_) (fun cdv A outer s H vs Q E hr h => ?_)
  · obtain ⟨g, w, O, i, f, k, X, Y, x, y, l, st, rfl, _⟩ := h
    rfl
  obtain ⟨g, w, O, i, f, k, X, Y, x, y, l, st, rfl, ⟨s, G⟩, hi, hl, hk, h48, hx, hy, aX, aY, hF, q⟩ := h
  obtain ⟨dx, hg⟩ := G.ob
  refine ⟨_, (pss_cons (ps_set (i := 5) sc_put_in.nd rfl (Or.inl rfl) (pe_meth (pv 0) T.c_Grove T.m_Grove_level_of G_Grove_level_of (hr.mono (by omega)) b_Grove_level_of .nil pass0 (pa_cons (pv 1) pa_nil)))
      (pss_cons (ps_if (pt_cmpR op_eq (pv 5) pe_int (nomark _)) (pss_one (ps_ret (pv 4))) pss_nil)
      (pss_cons (ps_set (i := 6) sc_put_in.nd rfl (Or.inl rfl) (pe_op op_shl pe_int (pe_op op_sub (pv 5) pe_int)))
      (pss_cons (ps_set (i := 7) sc_put_in.nd rfl (Or.inl rfl) (pe_callTy call_list_of (by rfl) T.f_list (by decide +kernel) (pa_cons (pe_meth (pv 0) T.c_Grove T.m_Grove_quarters G_Grove_quarters (hr.mono (by omega)) b_Grove_quarters .nil pass0 (pa_cons (pv 1) pa_nil)) pa_nil)))
      (pss_cons (ps_set (i := 8) sc_put_in.nd rfl (Or.inl rfl) (pe_op op_add (pe_op op_mul pe_int (pe_op op_fdivW (pv 3) (pv 6))) (pe_op op_fdivW (pv 2) (pv 6))))
      (pss_cons (ps_asg (pe_call G_put_in (hr.mono (by omega)) (by rfl) T.g_put_in k_put_in b_put_in .nil pass0 (pa_cons (pv 0) (pa_cons (pe_ix ix_list (pv 7) (pv 8) (fun _ _ => rfl)) (pa_cons (pe_op op_mod (pv 2) (pv 6)) (pa_cons (pe_op op_mod (pv 3) (pv 6)) (pa_cons (pv 4) pa_nil)))))) (pg_sub (pv 7) (pv 8) set_list))
      (pss_one (ps_ret (pe_meth (pv 0) T.c_Grove T.m_Grove_knit G_Grove_knit (hr.mono (by omega)) b_Grove_knit .nil pass0 (pa_cons (pe_ix ix_list (pv 7) pe_int (fun _ _ => rfl)) (pa_cons (pe_ix ix_list (pv 7) pe_int (fun _ _ => rfl)) (pa_cons (pe_ix ix_list (pv 7) pe_int (fun _ _ => rfl)) (pa_cons (pe_ix ix_list (pv 7) pe_int (fun _ _ => rfl)) pa_nil))))))))))))), ?_⟩
  refine ⟨_, rfl, g, dx, _, rfl, G.sub hg, by rfl, _, rfl, g, w, O, i, _, rfl, ⟨s, G⟩, hi, ?_⟩
  rw [lev_win]
  refine ⟨_, rfl, rfl, _, rfl, ?_⟩
  by_cases k0 : k = 0
  · subst k0
    refine iteT ⟨_, rfl, ?_⟩
    obtain rfl : x = 0 := by have := hx.2; rw [p2_zero] at this; omega
    obtain rfl : y = 0 := by have := hy.2; rw [p2_zero] at this; omega
    rw [Int.add_zero, Int.add_zero] at q
    refine q l w O H ⟨s, G⟩ (ExC.refl w) (Same.refl O) ?_
    show _ = some (Jf.Q.leaf (setP f X Y st X Y))
    rw [setP_at]
    exact hl
  obtain ⟨j, rfl⟩ : ∃ j, k = j + 1 := ⟨k - 1, by omega⟩
  have z : ¬ V.int ((j + 1 : Nat) : Int) = V.int 0 := fun e => by injection e with e; omega
  rw [decide_eq_false z]
  refine iteF ?_
  refine ⟨_, rfl, _, _, rfl, rfl, _, _, rfl, rfl, shlP (by omega), ?_⟩
  dsimp only
  rw [shl_pred]
  rw [win_succ] at hi
  refine ⟨_, rfl, g, dx, _, rfl, G.sub hg, by rfl, _, rfl, g, w, O, i, _, _, _, _, rfl, ⟨s, G⟩, hi, fun p i0 i1 i2 i3 e z0 z1 z2 z3 => ?_⟩
  refine ⟨p, _, rfl, .inr (SqT.of (G.sub e)), fun F hF0 => ?_⟩
  obtain ⟨n', i', X', Y', hn4, hat, hsel, hi', eX, eY, aX', aY', fin⟩ := put_sel (st := st) hx hy aX aY z0 z1 z2 z3
  have G1 := G.new hF0 (.lst [.int (i0 : Nat), .int (i1 : Nat), .int (i2 : Nat), .int (i3 : Nat)])
  have s1 : Same O (upd O F (.lst [.int (i0 : Nat), .int (i1 : Nat), .int (i2 : Nat), .int (i3 : Nat)])) := same_new (G.fresh hF0) _
  obtain ⟨dx1, hg1⟩ := G1.ob
  refine ⟨_, rfl, _, rfl, _, _, rfl, rfl, p2_wide (by omega) _, _, _, rfl, rfl, .inl ⟨by decide, by decide⟩, _, rfl, _, rfl, _, _, rfl, rfl, p2_wide (by omega) _, _, _, rfl, rfl, ?_⟩
  dsimp only
  rw [hat]
  refine ⟨_, rfl, _, rfl, _, rfl, _, _, _, _, rfl, rfl, SqL.of upd_same, atI_nat hsel, _, rfl, _, rfl, _, _, rfl, rfl, p2_pos j, _, rfl, _, rfl, _, _, rfl, rfl, p2_pos j, _, rfl, ?_⟩
  have px := p2_pos j
  refine ⟨g, w, _, i', f, j, X', Y', _, _, l, st, rfl, ⟨s, G1⟩, hi', hl, by omega, by omega, ⟨Int.emod_nonneg _ (by omega), Int.emod_lt_of_pos _ px⟩, ⟨Int.emod_nonneg _ (by omega), Int.emod_lt_of_pos _ px⟩, aX', aY', by rw [eX, eY]; exact hF, fun i2' w2 O2 H2 ⟨s2, G2⟩ x2 m2 hi2 => ?_⟩
  rw [eX, eY] at hi2
  have hF2 : O2 F = some (.lst [.int (i0 : Nat), .int (i1 : Nat), .int (i2 : Nat), .int (i3 : Nat)]) := m2 _ _ upd_same
  obtain ⟨j0, j1, j2, j3, el, y0, y1, y2, y3⟩ := fin i2' w2 x2 hi2
  refine ⟨_, rfl, _, rfl, F, _, _, n', rfl, rfl, G2.sub hF2, ?_, ?_⟩
  · show ixN 4 (n' : Int) = some n'
    unfold ixN
    rw [if_pos (by omega), if_pos (by omega)]
    simp
  rw [el]
  have nF : F ≠ g := fun e => by rw [e] at hF0; rw [G.sub hg] at hF0; cases hF0
  have G3 := G2.mut hF2 nF (fun xs z => by cases z) (.lst [.int (j0 : Nat), .int (j1 : Nat), .int (j2 : Nat), .int (j3 : Nat)])
  obtain ⟨dx3, hg3⟩ := G3.ob
  have fw : ∀ x y x' y', wf (lev (win (setP f (X + x) (Y + y) st) j x' y')) (win (setP f (X + x) (Y + y) st) j x y) := fun _ _ _ _ => by rw [lev_win]; exact wf_win _ _ _ _
  refine ⟨_, rfl, g, dx3, _, rfl, G3.sub hg3, by rfl, _, rfl, _, _, _, _, rfl, rfl, SqL.of upd_same, rfl, _, rfl, _, _, _, _, rfl, rfl, SqL.of upd_same, rfl, _, rfl, _, _, _, _, rfl, rfl, SqL.of upd_same, rfl, _, rfl, _, _, _, _, rfl, rfl, SqL.of upd_same, rfl, ?_⟩
  refine ⟨g, w2, _, j0, j1, j2, j3, _, _, _, _, rfl, ⟨s2, G3⟩, y0, y1, y2, y3, by rw [lev_win]; exact wf_win _ _ _ _, by rw [lev_win]; exact wf_win _ _ _ _, by rw [lev_win]; exact wf_win _ _ _ _, by rw [lev_win]; omega, hF (j + 1) X Y h48 aX aY, fun i3' w3 O3 H3 G4 _ x3 m3 hi3 => ?_⟩
  refine q i3' w3 O3 H3 G4 (x2.trans x3) (fun b o eb => m3 _ _ ?_) hi3
  have nb : b ≠ F := ne_of_none eb (G.fresh hF0)
  rw [upd_ne nb]
  exact m2 _ _ (s1 _ _ eb)
theorem ok_put_in (T : Txt K mg) : ∀ n, Ok P w K mg base ("put_in", none) ["grove", "square", "x", "y", "leaf"] (n + 4) (spPutIn K S n)
  | 0 => by
    obtain ⟨fd, F, b⟩ := T.d_put_in
    have no : ∀ vs H Q E, ¬ spPutIn K S 0 vs H Q E := fun vs H Q E h => by
      obtain ⟨g, w, O, i, f, k, X, Y, x, y, l, st, _, _, _, _, hk, _⟩ := h
      omega
    exact ⟨fd, ⟨fun vs H Q E h => absurd h (no vs H Q E), fun A outer s H args us vs Q E _ _ _ _ h => absurd h (no vs H Q E)⟩, b, F.kp⟩
  | n + 1 => ok_put_step T (ok_put_in T n)
end
end Jf
/-! JfF3 -/
set_option autoImplicit true
/-! Fields: planted, field_of; boxes of fields; levels. -/
namespace Jf
open PySem PySem.Spec PyProof.Rows L2
abbrev LIM : Int := 1099511627776
theorem lim_eq : p2 40 = LIM := by decide
section
variable {P : Program} {w : World} {K : PySem.W.Frag} {mg : Str → Option Value} {base : Heap} {S : Q → Prop}
def spInGround : Sp := fun vs H Qk _ => ∃ x y : Int, vs = [.int x, .int y] ∧ (-LIM ≤ x ∧ x < LIM) ∧ (-LIM ≤ y ∧ y < LIM) ∧ Qk (.bl true) H
theorem sc_in_ground : FnScope [("x" : Str), ("y" : Str)] ["x", "y"] (defScope s_in_ground) := ⟨rfl, rfl, rfl, by decide +kernel, rfl, by decide +kernel, by decide +kernel⟩
theorem ok_in_ground (T : Txt K mg) : Ok P w K mg base ("in_ground", none) ["x", "y"] 1 spInGround := by
  refine Ok.of T.d_in_ground sc_in_ground (fun vs H Q E h => ?_) (fun cdv A outer s H vs Q E hr h => ?_)
  · obtain ⟨x, y, rfl, _⟩ := h
    rfl
  obtain ⟨x, y, rfl, hx, hy, k⟩ := h
  refine ⟨_, (pss_one (ps_ret (pe_and (pe_chain op_le op_lt (pe_un un_neg (pe_glob (v := .int 1099511627776) (by rfl) T.i_LIMIT.choose_spec ⟨_, rfl⟩)) (pv 0) (pe_glob (v := .int 1099511627776) (by rfl) T.i_LIMIT.choose_spec ⟨_, rfl⟩)) (pe_one (pe_chain op_le op_lt (pe_un un_neg (pe_glob (v := .int 1099511627776) (by rfl) T.i_LIMIT.choose_spec ⟨_, rfl⟩)) (pv 1) (pe_glob (v := .int 1099511627776) (by rfl) T.i_LIMIT.choose_spec ⟨_, rfl⟩)))))), ?_⟩
  refine (val_chain (val_neg val_c) (val_var rfl) val_c) _ ?_
  rw [decide_eq_true (show -1099511627776 ≤ x from hx.1), decide_eq_true (show x < 1099511627776 from hx.2)]
  refine ⟨_, rfl, iteT ?_⟩
  refine (val_chain (val_neg val_c) (val_var rfl) val_c) _ ?_
  rw [decide_eq_true (show -1099511627776 ≤ y from hy.1), decide_eq_true (show y < 1099511627776 from hy.2)]
  exact k
def spPlanted (K : PySem.W.Frag) (S : Q → Prop) : Sp := fun vs H Qk _ => ∃ (g : Addr) (w : GWd) (O : Hp) (i : Nat) (f : Pl) (k : Nat) (x y : Int) (st : Nat), vs = [.ref g, .int (i : Nat), .int x, .int y, .int (st : Nat)] ∧ GV K S g w O H ∧ w.cs[i]? = some (cw f k) ∧ isF f k ∧ k ≤ 41 ∧
  (-LIM ≤ x ∧ x < LIM) ∧ (-LIM ≤ y ∧ y < LIM) ∧ st ≤ 7 ∧ Fam S f ∧ Fam S (setP f x y st) ∧ ∀ k', isF (setP f x y st) k' → k' ≤ 41 → Gives K S g w O (cw (setP f x y st) k') Qk
theorem sc_planted : FnScope [("grove" : Str), ("field" : Str), ("x" : Str), ("y" : Str), ("state" : Str), ("leaf" : Str), ("half" : Str)] ["grove", "field", "x", "y", "state"] (defScope s_planted) := ⟨rfl, rfl, rfl, by decide +kernel, rfl, by decide +kernel, by decide +kernel⟩
theorem ok_planted (T : Txt K mg) : Ok P w K mg base ("planted", none) ["grove", "field", "x", "y", "state"] 56 (spPlanted K S) := by
  obtain ⟨fd_in_ground, G_in_ground, b_in_ground, k_in_ground⟩ := ok_in_ground (P := P) (w := w) (base := base) T
  obtain ⟨fd_Grove_leaf, G_Grove_leaf, b_Grove_leaf, k_Grove_leaf⟩ := ok_Grove_leaf (P := P) (w := w) (base := base) (S := S) T
  obtain ⟨fd_Grove_level_of, G_Grove_level_of, b_Grove_level_of, k_Grove_level_of⟩ := ok_Grove_level_of (P := P) (w := w) (base := base) (S := S) T
  obtain ⟨fd_widened, G_widened, b_widened, k_widened⟩ := ok_widened (P := P) (w := w) (base := base) (S := S) T
  obtain ⟨fd_trimmed, G_trimmed, b_trimmed, k_trimmed⟩ := ok_trimmed (P := P) (w := w) (base := base) (S := S) T
  obtain ⟨fd_put_in, G_put_in, b_put_in, k_put_in⟩ := ok_put_in (P := P) (w := w) (base := base) (S := S) T 50
  refine Ok.of T.d_planted sc_planted (fun vs H Q E h => ?_) (fun cdv A outer s H vs Q E hr h => ?_)
  · obtain ⟨g, w, O, i, f, k, x, y, st, rfl, _⟩ := h
    rfl
  obtain ⟨g, w, O, i, f, k, x, y, st, rfl, ⟨s, G⟩, hi, F, h41, hx, hy, h7, hF, hF', q⟩ := h
  obtain ⟨dx, hg⟩ := G.ob
  refine ⟨_, (pss_cons (ps_if (pt_not (pt_val (pe_call G_in_ground (hr.mono (by omega)) (by rfl) T.g_in_ground k_in_ground b_in_ground .nil pass0 (pa_cons (pv 2) (pa_cons (pv 3) pa_nil))))) (pss_one ps_never) pss_nil)
      (pss_cons (ps_set (i := 5) sc_planted.nd rfl (Or.inl rfl) (pe_meth (pv 0) T.c_Grove T.m_Grove_leaf G_Grove_leaf (hr.mono (by omega)) b_Grove_leaf .nil pass0 (pa_cons (pv 4) pa_nil)))
      (pss_cons (ps_set (i := 6) sc_planted.nd rfl (Or.inl rfl) (pe_op op_shl pe_int (pe_op op_sub (pe_meth (pv 0) T.c_Grove T.m_Grove_level_of G_Grove_level_of (hr.mono (by omega)) b_Grove_level_of .nil pass0 (pa_cons (pv 1) pa_nil)) pe_int)))
      (pss_cons (ps_while PassesOwn.never (PW.pt (pw_or (pt_not (pt_chain op_le op_lt (pe_un un_neg (pv 6)) (pv 2) (pv 6))) (pw_or1 (pt_not (pt_chain op_le op_lt (pe_un un_neg (pv 6)) (pv 3) (pv 6)))))) (pss_cons (ps_set (i := 1) sc_planted.nd rfl (Or.inl rfl) (pe_call G_widened (hr.mono (by omega)) (by rfl) T.g_widened k_widened b_widened .nil pass0 (pa_cons (pv 0) (pa_cons (pv 1) pa_nil))))
      (pss_one (ps_set (i := 6) sc_planted.nd rfl (Or.inl rfl) (pe_op op_mul pe_int (pv 6))))))
      (pss_one (ps_ret (pe_call G_trimmed (hr.mono (by omega)) (by rfl) T.g_trimmed k_trimmed b_trimmed .nil pass0 (pa_cons (pv 0) (pa_cons (pe_call G_put_in (hr.mono (by omega)) (by rfl) T.g_put_in k_put_in b_put_in .nil pass0 (pa_cons (pv 0) (pa_cons (pv 1) (pa_cons (pe_op op_add (pv 2) (pv 6)) (pa_cons (pe_op op_add (pv 3) (pv 6)) (pa_cons (pv 5) pa_nil)))))) pa_nil))))))))), ?_⟩
  refine ⟨_, rfl, _, rfl, x, y, rfl, hx, hy, _, rfl, iteF ?_⟩
  refine ⟨_, rfl, g, dx, _, rfl, G.sub hg, by rfl, _, rfl, g, w, O, st, rfl, ⟨s, G⟩, h7, fun l w1 O1 H1 ⟨s1, G1⟩ _ x1 m1 hl => ?_⟩
  obtain ⟨dx1, hg1⟩ := G1.ob
  have hk := F.pos
  obtain ⟨j, rfl⟩ : ∃ j, k = j + 1 := ⟨k - 1, by omega⟩
  refine ⟨_, rfl, g, dx1, _, rfl, G1.sub hg1, by rfl, _, rfl, g, w1, O1, i, _, rfl, ⟨s1, G1⟩, x1 _ _ hi, ?_⟩
  rw [lev_cw]
  refine ⟨_, _, rfl, rfl, _, _, rfl, rfl, shlP (by omega), ?_⟩
  dsimp only
  rw [shl_pred]
  refine ⟨fun μ σ' H' => ∃ (w2 : GWd) (O2 : Hp) (i2 m : Nat), σ' = [some (.ref g), some (.int (i2 : Nat)), some (.int x), some (.int y), some (.int (st : Nat)), some (.int (l : Nat)), some (.int (p2 m))] ∧ GV K S g w2 O2 H' ∧ ExC w1 w2 ∧ Same O1 O2 ∧ w2.cs[i2]? = some (cw f (m + 1)) ∧ m ≤ 40 ∧ sup f (m + 1) ∧ μ = 50 - m,
    ⟨_, w1, O1, i, j, rfl, ⟨s1, G1⟩, ExC.refl _, Same.refl _, x1 _ _ hi, by omega, F.sup, rfl⟩, ?_⟩
  rintro μ σ2 H2 ⟨w2, O2, i2, m, rfl, ⟨s2, G2⟩, x2, m2, hi2, h40, hs, rfl⟩
  have ps := p2_succ m
  have pp := p2_pos m
  refine (ans_or2 (ans_not (ans_test (val_chain (val_neg (val_var rfl)) (val_var rfl) (val_var rfl)))) (ans_not (ans_test (val_chain (val_neg (val_var rfl)) (val_var rfl) (val_var rfl))))) _ ?_
  by_cases c : (-(p2 m) ≤ x ∧ x < p2 m) ∧ (-(p2 m) ≤ y ∧ y < p2 m)
  · obtain ⟨⟨c1, c2⟩, c3, c4⟩ := c
    rw [decide_eq_true c1, decide_eq_true c2, decide_eq_true c3, decide_eq_true c4]
    refine iteF ?_
    have ex : -(p2 (m + 1 - 1)) + (x + p2 m) = x := by rw [show m + 1 - 1 = m from rfl]; omega
    have ey : -(p2 (m + 1 - 1)) + (y + p2 m) = y := by rw [show m + 1 - 1 = m from rfl]; omega
    have aX : al (m + 1) (-(p2 (m + 1 - 1))) := al_neg (al_p2 (by omega))
    refine ⟨_, rfl, _, rfl, _, rfl, _, rfl, _, rfl, _, _, rfl, rfl, _, rfl, _, rfl, _, _, rfl, rfl, _, rfl, ?_⟩
    refine ⟨g, w2, O2, i2, f, m + 1, _, _, _, _, l, st, rfl, ⟨s2, G2⟩, hi2, x2 _ _ hl, by omega, by omega, ⟨by omega, by omega⟩, ⟨by omega, by omega⟩, aX, aX, by rw [ex, ey]; exact hF', fun i3 w3 O3 H3 G3 x3 m3 hi3 => ?_⟩
    rw [ex, ey] at hi3
    have sS : sup (setP f x y st) (m + 1) := setP_sup hs ⟨c1, c2⟩ ⟨c3, c4⟩
    refine ⟨g, w3, O3, i3, setP f x y st, m + 1, rfl, G3, hi3, by omega, by omega, sS, hF', fun k' Fk hk' i4 w4 O4 H4 G4 x4 m4 hi4 => ?_⟩
    exact q k' Fk (by omega) i4 w4 O4 H4 G4 (x1.trans (x2.trans (x3.trans x4))) (m1.trans (m2.trans (m3.trans m4))) hi4
  · have cb : (!(decide (-(p2 m) ≤ x) && decide (x < p2 m)) || !(decide (-(p2 m) ≤ y) && decide (y < p2 m))) = true := by
      refine Classical.byContradiction fun n => c ?_
      have n' := Bool.eq_false_iff.mpr n
      simp only [Bool.or_eq_false_iff, Bool.not_eq_false', Bool.and_eq_true, decide_eq_true_eq] at n'
      exact n'
    have m40 : m < 40 := by
      refine Classical.byContradiction fun n => c ?_
      obtain rfl : m = 40 := by omega
      rw [lim_eq]
      exact ⟨hx, hy⟩
    rw [cb]
    refine iteT ⟨fun σ' H' => ∃ μ', μ' < 50 - m ∧ ∃ (w2 : GWd) (O2 : Hp) (i2 m : Nat), σ' = [some (.ref g), some (.int (i2 : Nat)), some (.int x), some (.int y), some (.int (st : Nat)), some (.int (l : Nat)), some (.int (p2 m))] ∧ GV K S g w2 O2 H' ∧ ExC w1 w2 ∧ Same O1 O2 ∧ w2.cs[i2]? = some (cw f (m + 1)) ∧ m ≤ 40 ∧ sup f (m + 1) ∧ μ' = 50 - m, fun _ _ h => h, ?_⟩
    refine ⟨_, rfl, _, rfl, g, w2, O2, i2, f, m + 1, rfl, ⟨s2, G2⟩, hi2, by omega, by omega, hs, hF, fun i3 w3 O3 H3 G3 x3 m3 hi3 => ?_⟩
    refine ⟨_, rfl, _, _, rfl, rfl, .inl ⟨by decide, by decide⟩, ?_⟩
    refine ⟨50 - (m + 1), by omega, w3, O3, i3, m + 1, ?_, G3, x2.trans x3, m2.trans m3, hi3, by omega, sup_mono hs (by omega), rfl⟩
    rw [ps]
    rfl
/-- cells as tuples in a list -/
def CellsAt (H : Hp) (c : Addr) (L : List (Int × Int × Nat)) : Prop := ∃ ps : List Addr, H c = some (.lst (ps.map V.ref)) ∧ ps.length = L.length ∧ ∀ (i : Nat) (p : Addr) (x y : Int) (s : Nat), ps[i]? = some p → L[i]? = some (x, y, s) → H p = some (.tup [.int x, .int y, .int (s : Nat)])
theorem CellsAt.same {H H' : Hp} {c : Addr} {L : List (Int × Int × Nat)} (h : CellsAt H c L) (e : Same H H') : CellsAt H' c L := by
  obtain ⟨ps, h1, h2, h3⟩ := h
  exact ⟨ps, e _ _ h1, h2, fun i p x y s a b => e _ _ (h3 i p x y s a b)⟩
def spFieldOf (K : PySem.W.Frag) (S : Q → Prop) : Sp := fun vs H Qk _ => ∃ (g : Addr) (w : GWd) (O : Hp) (c : Addr) (L : List (Int × Int × Nat)), vs = [.ref g, .ref c] ∧ GV K S g w O H ∧ CellsAt O c L ∧ (∀ d ∈ L, (-LIM ≤ d.1 ∧ d.1 < LIM) ∧ (-LIM ≤ d.2.1 ∧ d.2.1 < LIM) ∧ d.2.2 ≤ 7) ∧
  (∀ i, i ≤ L.length → Fam S (plOf (L.take i))) ∧ ∀ k', isF (plOf L) k' → k' ≤ 41 → Gives K S g w O (cw (plOf L) k') Qk
theorem sc_field_of : FnScope [("grove" : Str), ("cells" : Str), ("field" : Str), ("x" : Str), ("y" : Str), ("state" : Str)] ["grove", "cells"] (defScope s_field_of) := ⟨rfl, rfl, rfl, by decide +kernel, rfl, by decide +kernel, by decide +kernel⟩
theorem ok_field_of (T : Txt K mg) : Ok P w K mg base ("field_of", none) ["grove", "cells"] 57 (spFieldOf K S) := by
  obtain ⟨fd_Grove_even, G_Grove_even, b_Grove_even, k_Grove_even⟩ := ok_Grove_even (P := P) (w := w) (base := base) (S := S) T
  obtain ⟨fd_planted, G_planted, b_planted, k_planted⟩ := ok_planted (P := P) (w := w) (base := base) (S := S) T
  refine Ok.of T.d_field_of sc_field_of (fun vs H Q E h => ?_) (fun cdv A outer s H vs Q E hr h => ?_)
  · obtain ⟨g, w, O, c, L, rfl, _⟩ := h
    rfl
  obtain ⟨g, w, O, c, L, rfl, ⟨s, G⟩, hc, hL, hF, q⟩ := h
  obtain ⟨dx, hg⟩ := G.ob
  refine ⟨_, (pss_cons (ps_set (i := 2) sc_field_of.nd rfl (Or.inl rfl) (pe_meth (pv 0) T.c_Grove T.m_Grove_even G_Grove_even (hr.mono (by omega)) b_Grove_even .nil pass0 (pa_cons pe_int (pa_cons pe_int pa_nil))))
      (pss_cons (ps_for PassesOwn.never (by rfl) (pi_list (pv 1)) (pg_tup (by rfl) (pgs_cons (pg_name (i := 3) sc_field_of.nd rfl (Or.inl rfl)) (pgs_cons (pg_name (i := 4) sc_field_of.nd rfl (Or.inl rfl)) (pgs_cons (pg_name (i := 5) sc_field_of.nd rfl (Or.inl rfl)) pgs_nil)))) (pss_one (ps_set (i := 2) sc_field_of.nd rfl (Or.inl rfl) (pe_call G_planted (hr.mono (by omega)) (by rfl) T.g_planted k_planted b_planted .nil pass0 (pa_cons (pv 0) (pa_cons (pv 2) (pa_cons (pv 3) (pa_cons (pv 4) (pa_cons (pv 5) pa_nil)))))))))
      (pss_one (ps_ret (pv 2))))), ?_⟩
  refine ⟨_, rfl, g, dx, _, rfl, G.sub hg, by rfl, g, w, O, 1, 0, rfl, ⟨s, G⟩, by omega, by omega, fun n w1 O1 H1 ⟨s1, G1⟩ x1 m1 hn => ?_⟩
  have e1 : solid 1 0 = cw zeroPl 1 := (solid_win 0 1 _ _)
  rw [e1] at hn
  have hc1 := hc.same m1
  obtain ⟨ps, h1, h2, h3⟩ := id hc1
  refine ⟨_, rfl, c, rfl, ⟨_, SqL.of (G1.sub h1)⟩, for_it (walk_list (K := K) (a := c) (xs := ps.map V.ref)) (fun i σ' H' => ∃ (w2 : GWd) (O2 : Hp) (j k : Nat) (a b d : Option V), σ' = [some (.ref g), some (.ref c), some (.int (j : Nat)), a, b, d] ∧ GV K S g w2 O2 H' ∧ ExC w1 w2 ∧ Same O1 O2 ∧ w2.cs[j]? = some (cw (plOf (L.take i)) k) ∧ isF (plOf (L.take i)) k ∧ k ≤ 41)
    ⟨w1, O1, n, 1, none, none, none, rfl, ⟨s1, G1⟩, ExC.refl _, Same.refl _, hn, isF_zero, by omega⟩ (fun i σ' H' _ ⟨w2, O2, j, k, a, b, d, _, ⟨s2, G2⟩, _, m2, _⟩ => SqL.of (G2.sub (m2 _ _ h1))) ?_ ?_⟩
  · rintro i v σ' H' H'' hi ⟨w2, O2, j, k, a, b, d, rfl, ⟨s2, G2⟩, x2, m2, hj, F, h41⟩ ⟨rfl, hv⟩
    rw [List.length_map] at hi
    have hiL : i < L.length := by rw [← h2]; exact hi
    rw [List.getElem?_map, List.getElem?_eq_getElem hi] at hv
    obtain rfl : V.ref ps[i] = v := Option.some.inj hv
    have eL : L[i]? = some (L[i].1, L[i].2.1, L[i].2.2) := List.getElem?_eq_getElem hiL
    have tp := h3 i ps[i] _ _ _ (List.getElem?_eq_getElem hi) eL
    have tp2 := G2.sub (m2 _ _ tp)
    have hd := hL L[i] (List.getElem_mem hiL)
    have et : L.take (i + 1) = L.take i ++ [L[i]] := by rw [List.take_succ, List.getElem?_eq_getElem hiL]; rfl
    have hF1 := hF i (by omega)
    have hF2 := hF (i + 1) (by omega)
    rw [et, plOf_snoc] at hF2
    refine ⟨_, _, rfl, SqT.of tp2, rfl, _, _, rfl, _, _, rfl, _, _, rfl, rfl, ?_⟩
    refine ⟨_, rfl, _, rfl, _, rfl, _, rfl, _, rfl, g, w2, O2, j, plOf (L.take i), k, _, _, _, rfl, ⟨s2, G2⟩, hj, F, h41, hd.1, hd.2.1, hd.2.2, hF1, hF2, fun k' Fk hk' i3 w3 O3 H3 G3 x3 m3 hi3 => ?_⟩
    rw [et, plOf_snoc]
    exact ⟨w3, O3, i3, k', _, _, _, rfl, G3, x2.trans x3, m2.trans m3, hi3, Fk, hk'⟩
  · rintro σ' H' ⟨w2, O2, j, k, a, b, d, rfl, G2, x2, m2, hj, F, h41⟩
    have e : L.take (ps.map V.ref).length = L := List.take_of_length_le (by rw [List.length_map, h2]; exact Nat.le_refl _)
    rw [e] at hj F
    exact ⟨_, rfl, q k F h41 j w2 O2 H' G2 (x1.trans x2) (m1.trans m2) hj⟩
end
end Jf
/-! JfF4 -/
set_option autoImplicit true
/-! Boxes of fields; the level for a jump; what is refused of a jump. -/
namespace Jf
open PySem PySem.Spec PyProof.Rows L2
def shiftB (h : Int) : Option Bx → Option Bx
  | none => none
  | some (a, b, c, d) => some (a - h, b - h, c, d)
theorem within_shift {l t r b h : Int} {o : Option Bx} (w : Within l t r b o) : Within (l - h) (t - h) (r - h) (b - h) (shiftB h o) := by
  match o, w with
  | none, _ => exact True.intro
  | some (x, y, c, d), w =>
    obtain ⟨h1, h2, h3, h4⟩ := w
    exact ⟨by omega, by omega, by omega, by omega⟩
/-- the box of a field within bounds -/
theorem box_within {f : Pl} {j : Nat} {B : Int} (h : bnd f B) : Within (-B) (-B) B B (shiftB (p2 j) (spanQ (cw f (j + 1)))) := by
  have w : Within (-B + p2 j) (-B + p2 j) (B + p2 j) (B + p2 j) (spanQ (cw f (j + 1))) := by
    refine within_span fun i k h1 h2 h3 h4 e => ?_
    have z := h _ _ e
    rw [show j + 1 - 1 = j from rfl] at z
    omega
  have q := within_shift (h := p2 j) w
  rw [show -B + p2 j - p2 j = -B by omega, show B + p2 j - p2 j = B by omega] at q
  exact q
section
variable {P : Program} {w : World} {K : PySem.W.Frag} {mg : Str → Option Value} {base : Heap} {S : Q → Prop}
def spBoxOf (K : PySem.W.Frag) (S : Q → Prop) : Sp := fun vs H Qk _ => ∃ (g : Addr) (w : GWd) (O : Hp) (i : Nat) (f : Pl) (j : Nat), vs = [.ref g, .int (i : Nat)] ∧ GV K S g w O H ∧ w.cs[i]? = some (cw f (j + 1)) ∧
  ∀ v O' H', GV K S g w O' H' → Same O O' → BxV O' (shiftB (p2 j) (spanQ (cw f (j + 1)))) v → Qk v H'
theorem sc_box_of : FnScope [("grove" : Str), ("field" : Str), ("span" : Str), ("half" : Str)] ["grove", "field"] (defScope s_box_of) := ⟨rfl, rfl, rfl, by decide +kernel, rfl, by decide +kernel, by decide +kernel⟩
theorem ok_box_of (T : Txt K mg) : Ok P w K mg base ("box_of", none) ["grove", "field"] 4 (spBoxOf K S) := by
  obtain ⟨fd_Grove_span, G_Grove_span, b_Grove_span, k_Grove_span⟩ := ok_Grove_span (P := P) (w := w) (base := base) (S := S) T
  obtain ⟨fd_Grove_level_of, G_Grove_level_of, b_Grove_level_of, k_Grove_level_of⟩ := ok_Grove_level_of (P := P) (w := w) (base := base) (S := S) T
  refine Ok.of T.d_box_of sc_box_of (fun vs H Q E h => ?_) (fun cdv A outer s H vs Q E hr h => ?_)
  · obtain ⟨g, w, O, i, f, j, rfl, _⟩ := h
    rfl
  obtain ⟨g, w, O, i, f, j, rfl, ⟨s, G⟩, hi, q⟩ := h
  obtain ⟨dx, hg⟩ := G.ob
  have h48 := G.lev_le hi
  rw [lev_cw] at h48
  refine ⟨_, (pss_cons (ps_set (i := 2) sc_box_of.nd rfl (Or.inl rfl) (pe_meth (pv 0) T.c_Grove T.m_Grove_span G_Grove_span (hr.mono (by omega)) b_Grove_span .nil pass0 (pa_cons (pv 1) pa_nil)))
      (pss_cons (ps_if (pt_cmpR op_isN (pv 2) pe_non (nomark _)) (pss_one (ps_ret pe_non)) pss_nil)
      (pss_cons (ps_set (i := 3) sc_box_of.nd rfl (Or.inl rfl) (pe_op op_shl pe_int (pe_op op_sub (pe_meth (pv 0) T.c_Grove T.m_Grove_level_of G_Grove_level_of (hr.mono (by omega)) b_Grove_level_of .nil pass0 (pa_cons (pv 1) pa_nil)) pe_int)))
      (pss_one (ps_ret (pe_tup (pa_cons (pe_op op_sub (pe_ix ix_tup (pv 2) pe_int (fun _ _ => rfl)) (pv 3)) (pa_cons (pe_op op_sub (pe_ix ix_tup (pv 2) pe_int (fun _ _ => rfl)) (pv 3)) (pa_cons (pe_ix ix_tup (pv 2) pe_int (fun _ _ => rfl)) (pa_cons (pe_ix ix_tup (pv 2) pe_int (fun _ _ => rfl)) pa_nil)))))))))), ?_⟩
  refine ⟨_, rfl, g, dx, _, rfl, G.sub hg, by rfl, _, rfl, g, w, O, i, _, rfl, ⟨s, G⟩, hi, fun v hv => ?_⟩
  match hsp : spanQ (cw f (j + 1)), hv with
  | none, hv =>
    obtain rfl : v = .non := hv
    rw [hsp] at q
    refine ⟨_, rfl, rfl, _, rfl, iteT ?_⟩
    exact q _ O H ⟨s, G⟩ (Same.refl O) rfl
  | some (a, b, c, d), hv =>
    obtain ⟨p, rfl, hp⟩ := hv
    rw [hsp] at q
    refine ⟨_, rfl, rfl, _, rfl, iteF ?_⟩
    refine ⟨_, rfl, g, dx, _, rfl, G.sub hg, by rfl, _, rfl, g, w, O, i, _, rfl, ⟨s, G⟩, hi, ?_⟩
    rw [lev_cw]
    refine ⟨_, _, rfl, rfl, _, _, rfl, rfl, shlP (by omega), ?_⟩
    dsimp only
    rw [shl_pred]
    have hp' := G.sub hp
    refine ⟨_, rfl, _, _, _, _, rfl, rfl, SqT.of hp', rfl, _, rfl, _, _, rfl, rfl, _, rfl, _, _, _, _, rfl, rfl, SqT.of hp', rfl, _, rfl, _, _, rfl, rfl, _, rfl, _, _, _, _, rfl, rfl, SqT.of hp', rfl, _, rfl, _, _, _, _, rfl, rfl, SqT.of hp', rfl, (by show 4 ≤ sizeLine; decide), fun r hr2 => ?_⟩
    have G1 := G.new hr2 (.tup [.int (a - p2 j), .int (b - p2 j), .int c, .int d])
    exact q _ _ _ ⟨s, G1⟩ (same_new (G.fresh hr2) _) ⟨r, rfl, upd_same⟩
/-- the least level for a jump -/
def spLevelFor : Sp := fun vs H Qk _ => ∃ (m e M : Nat), vs = [.int ((m + 1 : Nat) : Int), .int (e : Nat)] ∧ m ≤ 900 ∧ e ≤ 900 ∧ p2 m + p2 e ≤ p2 M ∧ ∀ k : Nat, k ≤ M → p2 m + p2 e ≤ p2 k → Qk (.int ((k + 2 : Nat) : Int)) H
theorem sc_level_for : FnScope [("level" : Str), ("e" : Str), ("need" : Str), ("found" : Str)] ["level", "e"] (defScope s_level_for) := ⟨rfl, rfl, rfl, by decide +kernel, rfl, by decide +kernel, by decide +kernel⟩
theorem ok_level_for (T : Txt K mg) : Ok P w K mg base ("level_for", none) ["level", "e"] 1 spLevelFor := by
  refine Ok.of T.d_level_for sc_level_for (fun vs H Q E h => ?_) (fun cdv A outer s H vs Q E hr h => ?_)
  · obtain ⟨m, e, M, rfl, _⟩ := h
    rfl
  obtain ⟨m, e, M, rfl, hm, he, hM, q⟩ := h
  refine ⟨_, (pss_cons (ps_set (i := 2) sc_level_for.nd rfl (Or.inl rfl) (pe_op op_add (pe_op op_shl pe_int (pe_op op_sub (pv 0) pe_int)) (pe_op op_shl pe_int (pv 1))))
      (pss_cons (ps_set (i := 3) sc_level_for.nd rfl (Or.inl rfl) pe_int)
      (pss_cons (ps_while PassesOwn.never (pt_cmpR op_lt (pe_op op_shl pe_int (pe_op op_sub (pv 3) pe_int)) (pv 2) (nomark _)) (pss_one (ps_set (i := 3) sc_level_for.nd rfl (Or.inl rfl) (pe_op op_add (pv 3) pe_int))))
      (pss_one (ps_ret (pv 3)))))), ?_⟩
  refine ⟨_, rfl, _, _, rfl, rfl, _, _, rfl, rfl, shlP (by omega), ?_⟩
  refine ⟨_, rfl, _, _, rfl, rfl, shlC (by omega), _, _, rfl, rfl, ?_⟩
  dsimp only
  rw [shl_pred, shl1]
  -- the number that is sought is at most M
  have M902 : ∀ k : Nat, p2 k < p2 m + p2 e → k ≤ 901 := fun k hk => by
    refine Classical.byContradiction fun n => ?_
    have a := p2_mono (show m ≤ 900 from hm)
    have b := p2_mono (show e ≤ 900 from he)
    have c := p2_mono (show 901 ≤ k by omega)
    have d : p2 901 = 2 * p2 900 := p2_succ 900
    have c1 : p2 901 ≤ p2 k := c
    omega
  refine ⟨fun μ σ' H' => ∃ k : Nat, σ' = [some (.int ((m + 1 : Nat) : Int)), some (.int (e : Nat)), some (.int (p2 m + p2 e)), some (.int ((k + 2 : Nat) : Int))] ∧ H' = H ∧ k ≤ M ∧ k ≤ 902 ∧ μ = M - k, ⟨_, 0, rfl, rfl, Nat.zero_le _, by omega, rfl⟩, ?_⟩
  rintro μ σ1 H1 ⟨k, rfl, rfl, hk, k902, rfl⟩
  have ek : ((k + 2 : Nat) : Int) - 2 = (k : Nat) := by omega
  refine ⟨_, rfl, _, _, rfl, rfl, _, _, rfl, rfl, by rw [ek]; exact shlC (by omega), ?_⟩
  dsimp only
  rw [ek, shl1]
  refine ⟨_, rfl, _, _, rfl, rfl, _, rfl, ite2 (fun c => ?_) (fun c => ?_)⟩
  · have c1 : p2 k < p2 m + p2 e := of_decide_eq_true c
    have c2 := M902 k c1
    have c3 : k < M := by
      refine Classical.byContradiction fun n => ?_
      have := p2_mono (show M ≤ k by omega)
      omega
    refine ⟨fun σ' H' => ∃ μ', μ' < M - k ∧ ∃ k : Nat, σ' = [some (.int ((m + 1 : Nat) : Int)), some (.int (e : Nat)), some (.int (p2 m + p2 e)), some (.int ((k + 2 : Nat) : Int))] ∧ H' = H1 ∧ k ≤ M ∧ k ≤ 902 ∧ μ' = M - k, fun _ _ h => h, ?_⟩
    refine ⟨_, rfl, _, _, rfl, rfl, M - (k + 1), by omega, k + 1, ?_, rfl, by omega, by omega, rfl⟩
    show [_, _, _, some (V.int (((k + 2 : Nat) : Int) + 1))] = _
    rw [show ((k + 2 : Nat) : Int) + 1 = ((k + 1 + 2 : Nat) : Int) by omega]
  · have c1 : ¬ p2 k < p2 m + p2 e := of_decide_eq_false (Bool.eq_false_iff.mpr c)
    exact ⟨_, rfl, q k hk (by omega)⟩
abbrev CJ (K : PySem.W.Frag) : Addr := He.ga K "Jumps"
/-- the attributes of a Jumps -/
def jfs (g r d : Addr) : List (Str × V) := [("grove", .ref g), ("rule", .ref r), ("known", .ref d)]
theorem jfs_grove (g r d : Addr) : (jfs g r d).lookup ("grove" : Str) = some (.ref g) := by rfl
theorem jfs_rule (g r d : Addr) : (jfs g r d).lookup ("rule" : Str) = some (.ref r) := by rfl
theorem jfs_known (g r d : Addr) : (jfs g r d).lookup ("known" : Str) = some (.ref d) := by rfl
/-- nothing is refused of a jump that stays in the ground -/
def spRefuse (K : PySem.W.Frag) (S : Q → Prop) : Sp := fun vs H Qk _ => ∃ (jp dj g r d : Addr) (w : GWd) (O : Hp) (i : Nat) (f : Pl) (j : Nat) (n : Nat) (B : Int), vs = [.ref jp, .int (i : Nat), .int (n : Nat)] ∧ O jp = some (.ins (CJ K) dj (jfs g r d)) ∧ GV K S g w O H ∧ w.cs[i]? = some (cw f (j + 1)) ∧ bnd f B ∧ B + n ≤ LIM ∧
  ∀ O' H', GV K S g w O' H' → Same O O' → Qk .non H'
theorem sc_refuse_steps : FnScope [("jumps" : Str), ("field" : Str), ("n" : Str), ("box" : Str)] ["jumps", "field", "n"] (defScope s_refuse_steps) := ⟨rfl, rfl, rfl, by decide +kernel, rfl, by decide +kernel, by decide +kernel⟩
theorem ok_refuse_steps (T : Txt K mg) : Ok P w K mg base ("refuse_steps", none) ["jumps", "field", "n"] 5 (spRefuse K S) := by
  obtain ⟨fd_is_whole, G_is_whole, b_is_whole, k_is_whole⟩ := ok_is_whole (P := P) (w := w) (base := base) T
  obtain ⟨fd_box_of, G_box_of, b_box_of, k_box_of⟩ := ok_box_of (P := P) (w := w) (base := base) (S := S) T
  refine Ok.of T.d_refuse_steps sc_refuse_steps (fun vs H Q E h => ?_) (fun cdv A outer s H vs Q E hr h => ?_)
  · obtain ⟨jp, dj, g, r, d, w, O, i, f, j, n, B, rfl, _⟩ := h
    rfl
  obtain ⟨jp, dj, g, r, d, w, O, i, f, j, n, B, rfl, hj, ⟨s, G⟩, hi, hB, hn, q⟩ := h
  refine ⟨_, (pss_cons (ps_if (PW.pt (pw_or (pt_not (pt_val (pe_call G_is_whole (hr.mono (by omega)) (by rfl) T.g_is_whole k_is_whole b_is_whole .nil pass0 (pa_cons (pv 2) pa_nil)))) (pw_or1 (pt_cmpR op_lt (pv 2) pe_int (nomark _))))) (pss_one ps_never) pss_nil)
      (pss_cons (ps_set (i := 3) sc_refuse_steps.nd rfl (Or.inl rfl) (pe_call G_box_of (hr.mono (by omega)) (by rfl) T.g_box_of k_box_of b_box_of .nil pass0 (pa_cons (pe_fld (pv 0) rfl) (pa_cons (pv 1) pa_nil))))
      (pss_cons (ps_if (pt_cmpR op_isN (pv 3) pe_non (nomark _)) (pss_one ps_retN) pss_nil)
      (pss_cons (ps_if (pt_cmpR op_lt (pe_op op_sub (pe_callB (call_min2 rfl) (by rfl) T.f_min (by decide +kernel) (pa_cons (pe_ix ix_tup (pv 3) pe_int (fun _ _ => rfl)) (pa_cons (pe_ix ix_tup (pv 3) pe_int (fun _ _ => rfl)) pa_nil))) (pv 2)) (pe_un un_neg (pe_glob (v := .int 1099511627776) (by rfl) T.i_LIMIT.choose_spec ⟨_, rfl⟩)) (nomark _)) (pss_one ps_never) pss_nil)
      (pss_one (ps_if (pt_cmpR op_gt (pe_op op_add (pe_callB (call_max2 rfl) (by rfl) T.f_max (by decide +kernel) (pa_cons (pe_op op_add (pe_ix ix_tup (pv 3) pe_int (fun _ _ => rfl)) (pe_ix ix_tup (pv 3) pe_int (fun _ _ => rfl))) (pa_cons (pe_op op_add (pe_ix ix_tup (pv 3) pe_int (fun _ _ => rfl)) (pe_ix ix_tup (pv 3) pe_int (fun _ _ => rfl))) pa_nil))) (pv 2)) (pe_glob (v := .int 1099511627776) (by rfl) T.i_LIMIT.choose_spec ⟨_, rfl⟩) (nomark _)) (pss_one ps_never) pss_nil)))))), ?_⟩
  refine ⟨_, rfl, _, rfl, _, rfl, iteF ?_⟩
  refine ⟨_, rfl, _, _, rfl, rfl, _, rfl, ?_⟩
  rw [decide_eq_false (show ¬ (n : Int) < 0 by omega)]
  refine iteF ?_
  refine ⟨_, rfl, jp, _, dj, _, _, rfl, G.sub hj, T.c_Jumps, T.n_Jumps_grove, jfs_grove g r d, _, rfl, g, w, O, i, f, j, rfl, ⟨s, G⟩, hi, fun v O1 H1 ⟨s1, G1⟩ m1 hv => ?_⟩
  have bw := box_within (j := j) hB
  match hsp : shiftB (p2 j) (spanQ (cw f (j + 1))), hv, bw with
  | none, hv, _ =>
    obtain rfl : v = .non := hv
    exact ⟨_, rfl, rfl, _, rfl, iteT (q O1 H1 ⟨s1, G1⟩ m1)⟩
  | some (a, b, c, d'), hv, bw =>
    obtain ⟨p, rfl, hp⟩ := hv
    obtain ⟨w1, w2, w3, w4⟩ := bw
    have hp' := G1.sub hp
    have hn : B + n ≤ 1099511627776 := hn
    refine ⟨_, rfl, rfl, _, rfl, iteF ?_⟩
    refine ⟨_, rfl, _, _, _, _, rfl, rfl, SqT.of hp', rfl, _, rfl, _, _, _, _, rfl, rfl, SqT.of hp', rfl, _, _, rfl, _, rfl, _, _, rfl, rfl, _, rfl, _, _, rfl, rfl, _, rfl, ?_⟩
    rw [min_if]
    rw [decide_eq_false (show ¬ min a b - (n : Int) < -1099511627776 by omega)]
    refine iteF ?_
    refine ⟨_, rfl, _, _, _, _, rfl, rfl, SqT.of hp', rfl, _, rfl, _, _, _, _, rfl, rfl, SqT.of hp', rfl, _, _, rfl, rfl, _, rfl, _, _, _, _, rfl, rfl, SqT.of hp', rfl, _, rfl, _, _, _, _, rfl, rfl, SqT.of hp', rfl, _, _, rfl, rfl, _, _, rfl, _, rfl, _, _, rfl, rfl, _, _, rfl, rfl, _, rfl, ?_⟩
    rw [max_if]
    rw [decide_eq_false (show ¬ (1099511627776 : Int) < max (a + c) (b + d') + (n : Int) by omega)]
    exact iteF (q O1 H1 ⟨s1, G1⟩ m1)
end
end Jf
/-! JfJ1 -/
set_option autoImplicit true
/-! The parts of a square. -/
namespace Jf
open PySem PySem.Spec PyProof.Rows L2
/-- numbers of squares, told by place -/
def IdsAt (w : GWd) (L : List Nat) (F : Nat → Q) : Prop := ∀ (n j : Nat), L[n]? = some j → w.cs[j]? = some (F n)
theorem IdsAt.mono {w w' : GWd} {L : List Nat} {F : Nat → Q} (h : IdsAt w L F) (x : ExC w w') : IdsAt w' L F := fun n j e => x _ _ (h n j e)
theorem IdsAt.snoc {w : GWd} {L : List Nat} {F : Nat → Q} {j : Nat} (h : IdsAt w L F) (hj : w.cs[j]? = some (F L.length)) : IdsAt w (L ++ [j]) F := fun n k e => by
  by_cases hn : n < L.length
  · rw [List.getElem?_append_left hn] at e; exact h n k e
  · have : n = L.length := by
      have := (List.getElem?_eq_some_iff.mp e).1
      rw [List.length_append, List.length_singleton] at this
      omega
    subst this
    rw [List.getElem?_append_right (Nat.le_refl _), Nat.sub_self] at e
    rw [← Option.some.inj e]
    exact hj
/-- the n-th of sixteen, in four rows of four -/
def F16 (f : Pl) (k : Nat) (X Y : Int) (n : Nat) : Q := win f k (X + ((n % 4 : Nat) : Int) * p2 k) (Y + ((n / 4 : Nat) : Int) * p2 k)
section
variable {P : Program} {w : World} {K : PySem.W.Frag} {mg : Str → Option Value} {base : Heap} {S : Q → Prop}
def spSixteen (K : PySem.W.Frag) (S : Q → Prop) : Sp := fun vs H Qk _ => ∃ (g : Addr) (w : GWd) (O : Hp) (i : Nat) (f : Pl) (k : Nat) (X Y : Int), vs = [.ref g, .int (i : Nat)] ∧ GV K S g w O H ∧ w.cs[i]? = some (win f (k + 2) X Y) ∧
  ∀ (p : Addr) (L : List Nat) O' H', GV K S g w O' H' → Same O O' → O p = none → O' p = some (.lst (L.map fun j => V.int (j : Nat))) → L.length = 16 → IdsAt w L (F16 f k X Y) → Qk (.ref p) H'
/-- the m-th quarter's quarters -/
def QAt (w : GWd) (O : Hp) (f : Pl) (k : Nat) (X Y : Int) (m : Nat) (p : Addr) : Prop := ∃ a b c d : Nat, O p = some (.tup [.int (a : Nat), .int (b : Nat), .int (c : Nat), .int (d : Nat)]) ∧ IdsAt w [a, b, c, d] fun n => F16 f k X Y ((m / 2 * 2 + n / 2) * 4 + (m % 2 * 2 + n % 2))
theorem sc_sixteen : FnScope [("grove" : Str), ("square" : Str), ("four" : Str), ("one" : Str), ("at" : Str)] ["grove", "square"] (defScope s_sixteen) := ⟨rfl, rfl, rfl, by decide +kernel, rfl, by decide +kernel, by decide +kernel⟩
theorem ok_sixteen (T : Txt K mg) : Ok P w K mg base ("sixteen", none) ["grove", "square"] 4 (spSixteen K S) := by
  obtain ⟨fd_Grove_quarters, G_Grove_quarters, b_Grove_quarters, k_Grove_quarters⟩ := ok_Grove_quarters (P := P) (w := w) (base := base) (S := S) T
  refine Ok.of T.d_sixteen sc_sixteen (fun vs H Q E h => ?_) (fun cdv A outer s H vs Q E hr h => ?_)
  · obtain ⟨g, w, O, i, f, k, X, Y, rfl, _⟩ := h
    rfl
  obtain ⟨g, w, O, i, f, k, X, Y, rfl, ⟨s, G⟩, hi, q⟩ := h
  obtain ⟨dx, hg⟩ := G.ob
  refine ⟨_, (pss_cons (ps_set (i := 2) sc_sixteen.nd rfl (Or.inr rfl) (pe_lc (own := [("one", 3)]) (g := gName 3) (te := tMeth (CG K) "quarters" (spQuarters K S) [] E0 (tVar 0) (tCons (tVar 3) tNil)) (by rfl) sc_sixteen.nd (pi_tup (pe_meth (pv 0) T.c_Grove T.m_Grove_quarters G_Grove_quarters (hr.mono (by omega)) b_Grove_quarters .nil pass0 (pa_cons (pv 1) pa_nil))) (blkOk_by (own := [("one", 3)]) (N := [("grove" : Str), ("square" : Str), ("four" : Str), ("one" : Str), ("at" : Str)]) (sc := defScope s_sixteen) (by decide +kernel)) (fun _ _ _ _ _ => pg_name (i := 3) sc_sixteen.nd rfl (Or.inl rfl)) (fun _ _ _ _ _ => pts_nil) (fun _ _ _ _ _ => (pe_meth (pv 0) T.c_Grove T.m_Grove_quarters G_Grove_quarters (hr.mono (by omega)) b_Grove_quarters .nil pass0 (pa_cons (pv 3) pa_nil)))))
      (pss_one (ps_ret (pe_lc (own := [("at", 4)]) (g := gName 4) (te := (tOp (rIxT K) (tOp (rIxL K) (tVar 2) (tOp (rI0 fun i j => V.int (i + j)) (tOp (rI CMul fun i j => V.int (i * j)) (tOp (rI CDiv fun i j => V.int (i / j)) (tVar 4) (tC (.int 8))) (tC (.int 2))) (tOp (rI CDiv fun i j => V.int (i / j)) (tOp (rI (fun _ j => 0 < j) fun i j => V.int (i % j)) (tVar 4) (tC (.int 4))) (tC (.int 2))))) (tOp (rI0 fun i j => V.int (i + j)) (tOp (rI CMul fun i j => V.int (i * j)) (tOp (rI (fun _ j => 0 < j) fun i j => V.int (i % j)) (tOp (rI CDiv fun i j => V.int (i / j)) (tVar 4) (tC (.int 4))) (tC (.int 2))) (tC (.int 2))) (tOp (rI (fun _ j => 0 < j) fun i j => V.int (i % j)) (tVar 4) (tC (.int 2)))))) (by rfl) sc_sixteen.nd (pi_range1 (by rfl) T.f_range (pa_cons pe_int pa_nil)) (blkOk_by (own := [("at", 4)]) (N := [("grove" : Str), ("square" : Str), ("four" : Str), ("one" : Str), ("at" : Str)]) (sc := defScope s_sixteen) (by decide +kernel)) (fun _ _ _ _ _ => pg_name (i := 4) sc_sixteen.nd rfl (Or.inl rfl)) (fun _ _ _ _ _ => pts_nil) (fun _ _ _ _ _ => (pe_ix ix_tup (pe_ix ix_list (pv 2) (pe_op op_add (pe_op op_mul (pe_op op_fdiv (pv 4) pe_int) pe_int) (pe_op op_fdiv (pe_op op_mod (pv 4) pe_int) pe_int)) (fun _ _ => rfl)) (pe_op op_add (pe_op op_mul (pe_op op_mod (pe_op op_fdiv (pv 4) pe_int) pe_int) pe_int) (pe_op op_mod (pv 4) pe_int)) (fun _ _ => rfl))))))), ?_⟩
  rw [win_succ] at hi
  refine ⟨_, rfl, g, dx, _, rfl, G.sub hg, by rfl, _, rfl, g, w, O, i, _, _, _, _, rfl, ⟨s, G⟩, hi, fun p i0 i1 i2 i3 e z0 z1 z2 z3 => ?_⟩
  have e' := G.sub e
  have pk := p2_succ k
  -- the m-th quarter
  have qm : ∀ (m : Nat) (j : Nat), ([i0, i1, i2, i3] : List Nat)[m]? = some j → w.cs[j]? = some (win f (k + 1) (X + ((m % 2 : Nat) : Int) * p2 (k + 1)) (Y + ((m / 2 : Nat) : Int) * p2 (k + 1))) := fun m j h => by
    have hm : m < 4 := (List.getElem?_eq_some_iff.mp h).1
    rcases (show m = 0 ∨ m = 1 ∨ m = 2 ∨ m = 3 by omega) with rfl | rfl | rfl | rfl
    · obtain rfl : i0 = j := Option.some.inj h
      rw [z0]; exact congrArg some (win_at (by simp) (by simp))
    · obtain rfl : i1 = j := Option.some.inj h
      rw [z1]; exact congrArg some (win_at (by simp) (by simp))
    · obtain rfl : i2 = j := Option.some.inj h
      rw [z2]; exact congrArg some (win_at (by simp) (by simp))
    · obtain rfl : i3 = j := Option.some.inj h
      rw [z3]; exact congrArg some (win_at (by simp) (by simp))
  refine ⟨p, rfl, ⟨_, SqT.of e'⟩, fun D hD => lc_map (walk_tup (xs := [.int (i0 : Nat), .int (i1 : Nat), .int (i2 : Nat), .int (i3 : Nat)])) (fun _ => rfl) (fun m H' => ∃ ts : List Addr, H' = upd H D (.lst (ts.map V.ref)) ∧ ts.length = m ∧ ∀ (n : Nat) t, ts[n]? = some t → QAt w O f k X Y n t) ⟨[], rfl, rfl, fun n t h => by cases h⟩ (fun m H' _ ⟨ts, eH, _⟩ => ?_) ?_ ?_⟩
  · rw [eH]; exact SqT.of (by rw [upd_ne (ne_of_none e' hD)]; exact e')
  · rintro m x H1 H2 hm ⟨ts, rfl, el, hts⟩ ⟨rfl, hx⟩
    have hm4 : m < 4 := hm
    have hx2 : ∃ j, ([i0, i1, i2, i3] : List Nat)[m]? = some j ∧ x = .int (j : Nat) := by
      rcases (show m = 0 ∨ m = 1 ∨ m = 2 ∨ m = 3 by omega) with rfl | rfl | rfl | rfl
      · exact ⟨i0, rfl, (Option.some.inj hx).symm⟩
      · exact ⟨i1, rfl, (Option.some.inj hx).symm⟩
      · exact ⟨i2, rfl, (Option.some.inj hx).symm⟩
      · exact ⟨i3, rfl, (Option.some.inj hx).symm⟩
    obtain ⟨j, hj, rfl⟩ := hx2
    have hq := qm m j hj
    rw [win_succ] at hq
    have G1 := G.new hD (.lst (ts.map V.ref))
    obtain ⟨dx1, hg1⟩ := G1.ob
    refine ⟨_, rfl, g, dx1, _, rfl, G1.sub hg1, by rfl, _, rfl, g, w, _, j, _, _, _, _, rfl, ⟨s, G1⟩, hq, fun t a b c d et ya yb yc yd => ?_⟩
    have nt : t ≠ D := fun z => by
      rw [z, upd_same] at et; cases et
    rw [upd_ne nt] at et
    refine ⟨_, upd_same, ?_, ?_⟩
    · rw [List.length_map, el]; exact small1000 (by omega)
    · refine ⟨ts ++ [t], by rw [upd_upd, List.map_append]; rfl, by rw [List.length_append, el]; rfl, fun n t' h => ?_⟩
      by_cases hn : n < ts.length
      · rw [List.getElem?_append_left hn] at h; exact hts n t' h
      · have en : n = m := by
          have := (List.getElem?_eq_some_iff.mp h).1
          rw [List.length_append, List.length_singleton] at this
          omega
        subst en
        rw [List.getElem?_append_right (by omega), el, Nat.sub_self] at h
        obtain rfl : t = t' := Option.some.inj h
        refine ⟨a, b, c, d, et, fun n' j' h' => ?_⟩
        have hn' : n' < 4 := (List.getElem?_eq_some_iff.mp h').1
        have F : ∀ (u v : Int) (r : Nat), r < 4 → u = X + ((n % 2 * 2 + r % 2 : Nat) : Int) * p2 k → v = Y + ((n / 2 * 2 + r / 2 : Nat) : Int) * p2 k → win f k u v = F16 f k X Y ((n / 2 * 2 + r / 2) * 4 + (n % 2 * 2 + r % 2)) := fun u v r hr hu hv => by
          unfold F16
          rw [show ((n / 2 * 2 + r / 2) * 4 + (n % 2 * 2 + r % 2)) % 4 = n % 2 * 2 + r % 2 by omega, show ((n / 2 * 2 + r / 2) * 4 + (n % 2 * 2 + r % 2)) / 4 = n / 2 * 2 + r / 2 by omega, hu, hv]
        have ex : X + ((n % 2 : Nat) : Int) * p2 (k + 1) = X + ((n % 2 * 2 + 0 : Nat) : Int) * p2 k := by
          rw [pk, Nat.add_zero, Int.natCast_mul, Int.mul_assoc]; rfl
        have ex1 : X + ((n % 2 : Nat) : Int) * p2 (k + 1) + p2 k = X + ((n % 2 * 2 + 1 : Nat) : Int) * p2 k := by
          rw [pk, Int.natCast_add, Int.natCast_mul, Int.add_mul, Int.mul_assoc, Int.natCast_one, Int.one_mul, Int.add_assoc]; rfl
        have ey : Y + ((n / 2 : Nat) : Int) * p2 (k + 1) = Y + ((n / 2 * 2 + 0 : Nat) : Int) * p2 k := by
          rw [pk, Nat.add_zero, Int.natCast_mul, Int.mul_assoc]; rfl
        have ey1 : Y + ((n / 2 : Nat) : Int) * p2 (k + 1) + p2 k = Y + ((n / 2 * 2 + 1 : Nat) : Int) * p2 k := by
          rw [pk, Int.natCast_add, Int.natCast_mul, Int.add_mul, Int.mul_assoc, Int.natCast_one, Int.one_mul, Int.add_assoc]; rfl
        rcases (show n' = 0 ∨ n' = 1 ∨ n' = 2 ∨ n' = 3 by omega) with rfl | rfl | rfl | rfl
        · obtain rfl : a = j' := Option.some.inj h'
          rw [ya, F _ _ 0 (by omega) ex ey]
        · obtain rfl : b = j' := Option.some.inj h'
          rw [yb, F _ _ 1 (by omega) ex1 ey]
        · obtain rfl : c = j' := Option.some.inj h'
          rw [yc, F _ _ 2 (by omega) ex ey1]
        · obtain rfl : d = j' := Option.some.inj h'
          rw [yd, F _ _ 3 (by omega) ex1 ey1]
  · rintro H1 ⟨ts, rfl, el, hts⟩
    have el : ts.length = 4 := el
    have G1 := G.new hD (.lst (ts.map V.ref))
    have hts1 : ∀ (n : Nat) t, ts[n]? = some t → QAt w (upd O D (.lst (ts.map V.ref))) f k X Y n t := fun n t h => by
      obtain ⟨a, b, c, d, h1, h2⟩ := hts n t h
      exact ⟨a, b, c, d, by rw [upd_ne (ne_of_none h1 (G.fresh hD))]; exact h1, h2⟩
    refine ⟨_, rfl, by omega, by omega, fun R hR => ?_⟩
    have nDR : D ≠ R := ne_of_none (upd_same) hR
    refine lc_map (walk_range (lo := 0) (n := 16)) (fun _ => rfl) (fun m H' => ∃ L : List Nat, H' = upd (upd H D (.lst (ts.map V.ref))) R (.lst (L.map fun j => V.int (j : Nat))) ∧ L.length = m ∧ IdsAt w L (F16 f k X Y)) ⟨[], rfl, rfl, fun n t h => by cases h⟩ (fun m H' _ _ => True.intro) ?_ ?_
    · rintro m x H1 H2 hm ⟨L, rfl, eL, hL⟩ ⟨rfl, rfl⟩
      have hD2 : (upd (upd H D (.lst (ts.map V.ref))) R (.lst (L.map fun j => V.int (j : Nat)))) D = some (.lst (ts.map V.ref)) := by rw [upd_ne nDR, upd_same]
      have m1 : m / 8 * 2 + m % 4 / 2 < ts.length := by omega
      obtain ⟨a, b, c, d, h1, h2⟩ := hts1 _ _ (List.getElem?_eq_getElem m1)
      have hn : m / 4 % 2 * 2 + m % 2 < 4 := by omega
      have e1 : ((0 : Int) + (m : Nat)) / 8 * 2 + ((0 : Int) + (m : Nat)) % 4 / 2 = ((m / 8 * 2 + m % 4 / 2 : Nat) : Int) := by omega
      have e2 : ((0 : Int) + (m : Nat)) / 4 % 2 * 2 + ((0 : Int) + (m : Nat)) % 2 = ((m / 4 % 2 * 2 + m % 2 : Nat) : Int) := by omega
      have G2 := G1.new hR (.lst (L.map fun j => V.int (j : Nat)))
      have h1' : (upd (upd H D (.lst (ts.map V.ref))) R (.lst (L.map fun j => V.int (j : Nat)))) (ts[m / 8 * 2 + m % 4 / 2]) = some (.tup [.int (a : Nat), .int (b : Nat), .int (c : Nat), .int (d : Nat)]) := by
        rw [upd_ne (ne_of_none (G1.sub h1) hR)]; exact G1.sub h1
      refine ⟨_, rfl, _, rfl, _, _, rfl, rfl, ⟨by decide, by decide⟩, _, _, rfl, rfl, .inr ⟨by decide, by decide⟩, _, rfl, _, _, rfl, rfl, (by show (0 : Int) < 4; decide), _, _, rfl, rfl, ⟨by decide, by decide⟩, _, _, rfl, rfl, ?_⟩
      dsimp only
      rw [e1]
      refine ⟨D, _, _, _, rfl, rfl, SqL.of hD2, atI_nat (by rw [List.getElem?_map, List.getElem?_eq_getElem m1]; rfl), ?_⟩
      refine ⟨_, rfl, _, _, rfl, rfl, ⟨by decide, by decide⟩, _, _, rfl, rfl, (by show (0 : Int) < 2; decide), _, _, rfl, rfl, .inr ⟨by decide, by decide⟩, _, rfl, _, _, rfl, rfl, (by show (0 : Int) < 2; decide), _, _, rfl, rfl, ?_⟩
      dsimp only
      rw [e2]
      have hsel : ∃ j, ([a, b, c, d] : List Nat)[m / 4 % 2 * 2 + m % 2]? = some j := ⟨_, List.getElem?_eq_getElem (by simpa using hn)⟩
      obtain ⟨j, hj⟩ := hsel
      have hjc := h2 _ j hj
      refine ⟨_, _, _, .int (j : Nat), rfl, rfl, SqT.of h1', ?_, ?_⟩
      · have e3 : ([.int (a : Nat), .int (b : Nat), .int (c : Nat), .int (d : Nat)] : List V) = ([a, b, c, d] : List Nat).map fun j => V.int (j : Nat) := rfl
        rw [e3]
        exact atI_nat (by rw [List.getElem?_map, hj]; rfl)
      refine ⟨_, upd_same, ?_, ?_⟩
      · rw [List.length_map, eL]; exact small1000 (by omega)
      · refine ⟨L ++ [j], by rw [upd_upd, List.map_append]; rfl, by rw [List.length_append, eL]; rfl, hL.snoc ?_⟩
        rw [hjc, eL]
        have em : ∀ m : Nat, m < 16 → ((m / 8 * 2 + m % 4 / 2) / 2 * 2 + (m / 4 % 2 * 2 + m % 2) / 2) * 4 + ((m / 8 * 2 + m % 4 / 2) % 2 * 2 + (m / 4 % 2 * 2 + m % 2) % 2) = m := by decide
        exact congrArg (fun z => some (F16 f k X Y z)) (em m hm)
    · rintro H1 ⟨L, rfl, eL, hL⟩
      have G2 := G1.new hR (.lst (L.map fun j => V.int (j : Nat)))
      exact q R L _ _ ⟨s, G2⟩ ((same_new (G.fresh hD) _).trans (same_new (G1.fresh hR) _)) (G.fresh (by rw [upd_ne (Ne.symm nDR)] at hR; exact hR)) upd_same eL hL
end
end Jf
/-! JfJ2 -/
set_option autoImplicit true
/-! nine_of, fours_of, around_of, by_rule. -/
namespace Jf
open PySem PySem.Spec PyProof.Rows L2
/-- the n-th of the nine parts, in three rows of three -/
def F9 (f : Pl) (k : Nat) (X Y : Int) (n : Nat) : Q := win f (k + 2) (X + ((n % 3 : Nat) : Int) * p2 (k + 1)) (Y + ((n / 3 : Nat) : Int) * p2 (k + 1))
def at9 : List Nat := [0, 1, 2, 4, 5, 6, 8, 9, 10]
theorem at9_at : ∀ n : Nat, n < 9 → at9[n]? = some (n / 3 * 4 + n % 3) := by decide
theorem F9_node (f : Pl) (k : Nat) (X Y : Int) {n : Nat} (hn : n < 9) : F9 f k X Y n = .node (F16 f (k + 1) X Y (n / 3 * 4 + n % 3)) (F16 f (k + 1) X Y (n / 3 * 4 + n % 3 + 1)) (F16 f (k + 1) X Y (n / 3 * 4 + n % 3 + 4)) (F16 f (k + 1) X Y (n / 3 * 4 + n % 3 + 5)) := by
  unfold F9 F16
  rw [win_succ]
  have a1 : (n / 3 * 4 + n % 3) % 4 = n % 3 := by omega
  have a2 : (n / 3 * 4 + n % 3) / 4 = n / 3 := by omega
  have b1 : (n / 3 * 4 + n % 3 + 1) % 4 = n % 3 + 1 := by omega
  have b2 : (n / 3 * 4 + n % 3 + 1) / 4 = n / 3 := by omega
  have c1 : (n / 3 * 4 + n % 3 + 4) % 4 = n % 3 := by omega
  have c2 : (n / 3 * 4 + n % 3 + 4) / 4 = n / 3 + 1 := by omega
  have d1 : (n / 3 * 4 + n % 3 + 5) % 4 = n % 3 + 1 := by omega
  have d2 : (n / 3 * 4 + n % 3 + 5) / 4 = n / 3 + 1 := by omega
  rw [a1, a2, b1, b2, c1, c2, d1, d2]
  have e : ∀ (Z : Int) (m : Nat), Z + ((m : Nat) : Int) * p2 (k + 1) + p2 (k + 1) = Z + ((m + 1 : Nat) : Int) * p2 (k + 1) := fun Z m => by
    rw [Int.natCast_add, Int.natCast_one, Int.add_mul, Int.one_mul, Int.add_assoc]
  rw [e, e]
section
variable {P : Program} {w : World} {K : PySem.W.Frag} {mg : Str → Option Value} {base : Heap} {S : Q → Prop}
def spNine (K : PySem.W.Frag) (S : Q → Prop) : Sp := fun vs H Qk _ => ∃ (g : Addr) (w : GWd) (O : Hp) (i : Nat) (f : Pl) (k : Nat) (X Y : Int), vs = [.ref g, .int (i : Nat)] ∧ GV K S g w O H ∧ w.cs[i]? = some (win f (k + 3) X Y) ∧ k ≤ 45 ∧ (∀ n, n < 9 → S (F9 f k X Y n)) ∧
  ∀ (p : Addr) (L : List Nat) w' O' H', GV K S g w' O' H' → ExC w w' → Same O O' → O p = none → O' p = some (.lst (L.map fun j => V.int (j : Nat))) → L.length = 9 → IdsAt w' L (F9 f k X Y) → Qk (.ref p) H'
theorem sc_nine_of : FnScope [("grove" : Str), ("square" : Str), ("some" : Str), ("parts" : Str), ("at" : Str)] ["grove", "square"] (defScope s_nine_of) := ⟨rfl, rfl, rfl, by decide +kernel, rfl, by decide +kernel, by decide +kernel⟩
theorem ok_nine_of (T : Txt K mg) : Ok P w K mg base ("nine_of", none) ["grove", "square"] 5 (spNine K S) := by
  obtain ⟨fd_sixteen, G_sixteen, b_sixteen, k_sixteen⟩ := ok_sixteen (P := P) (w := w) (base := base) (S := S) T
  obtain ⟨fd_Grove_knit, G_Grove_knit, b_Grove_knit, k_Grove_knit⟩ := ok_Grove_knit (P := P) (w := w) (base := base) (S := S) T
  refine Ok.of T.d_nine_of sc_nine_of (fun vs H Q E h => ?_) (fun cdv A outer s H vs Q E hr h => ?_)
  · obtain ⟨g, w, O, i, f, k, X, Y, rfl, _⟩ := h
    rfl
  obtain ⟨g, w, O, i, f, k, X, Y, rfl, ⟨s, G⟩, hi, h45, hS, q⟩ := h
  refine ⟨_, (pss_cons (ps_set (i := 2) sc_nine_of.nd rfl (Or.inl rfl) (pe_call G_sixteen (hr.mono (by omega)) (by rfl) T.g_sixteen k_sixteen b_sixteen .nil pass0 (pa_cons (pv 0) (pa_cons (pv 1) pa_nil))))
      (pss_cons (ps_set (i := 3) sc_nine_of.nd rfl (Or.inl rfl) (pe_lst pa_nil))
      (pss_cons (ps_for PassesOwn.never (by rfl) (pi_tup (pe_tup (pa_cons pe_int (pa_cons pe_int (pa_cons pe_int (pa_cons pe_int (pa_cons pe_int (pa_cons pe_int (pa_cons pe_int (pa_cons pe_int (pa_cons pe_int pa_nil))))))))))) (pg_name (i := 4) sc_nine_of.nd rfl (Or.inl rfl)) (pss_one (ps_expr (pe_bm PySem.F.plainAttrs_list PySem.F.slot_list_append PySem.F.type_list_append mt_append (pv 3) (pa_cons (pe_meth (pv 0) T.c_Grove T.m_Grove_knit G_Grove_knit (hr.mono (by omega)) b_Grove_knit .nil pass0 (pa_cons (pe_ix ix_list (pv 2) (pv 4) (fun _ _ => rfl)) (pa_cons (pe_ix ix_list (pv 2) (pe_op op_add (pv 4) pe_int) (fun _ _ => rfl)) (pa_cons (pe_ix ix_list (pv 2) (pe_op op_add (pv 4) pe_int) (fun _ _ => rfl)) (pa_cons (pe_ix ix_list (pv 2) (pe_op op_add (pv 4) pe_int) (fun _ _ => rfl)) pa_nil))))) pa_nil)))))
      (pss_one (ps_ret (pv 3)))))), ?_⟩
  refine ⟨_, rfl, _, rfl, g, w, O, i, f, k + 1, X, Y, rfl, ⟨s, G⟩, hi, fun p L O1 H1 ⟨s1, G1⟩ m1 np hp e16 hL => ?_⟩
  refine ⟨Nat.zero_le _, fun D hD => ?_⟩
  have G2 := G1.new hD (.lst [])
  refine ⟨by decide, fun t ht => ?_⟩
  have G3 := G2.new ht (.tup (at9.map fun n => V.int (n : Nat)))
  have nDt : D ≠ t := ne_of_none upd_same ht
  have npD : p ≠ D := ne_of_none (G1.sub hp) hD
  have npt : p ≠ t := ne_of_none (by rw [upd_ne npD]; exact G1.sub hp) ht
  have m3 : Same O1 (upd (upd O1 D (.lst [])) t (.tup (at9.map fun n => V.int (n : Nat)))) := (same_new (G1.fresh hD) _).trans (same_new (G2.fresh ht) _)
  obtain ⟨dx3, hg3⟩ := G3.ob
  have nDg : D ≠ g := fun e => by
    obtain ⟨dx1, hg1⟩ := G1.ob
    rw [e, G1.sub hg1] at hD
    cases hD
  have tO : (upd (upd O1 D (.lst [])) t (.tup (at9.map fun n => V.int (n : Nat)))) t = some (.tup (at9.map fun n => V.int (n : Nat))) := upd_same
  refine ⟨t, rfl, ⟨at9.map fun n => V.int (n : Nat), SqT.of upd_same⟩, for_it (walk_tup (K := K) (a := t) (xs := at9.map fun n => V.int (n : Nat))) (fun n σ' H' => ∃ (w' : GWd) (O' : Hp) (M : List Nat) (v : Option V), σ' = [some (.ref g), some (.int (i : Nat)), some (.ref p), some (.ref D), v] ∧ GV K S g w' O' H' ∧ ExC w w' ∧ O' D = some (.lst (M.map fun j => V.int (j : Nat))) ∧
      (∀ b o, (upd (upd O1 D (.lst [])) t (.tup (at9.map fun n => V.int (n : Nat)))) b = some o → b ≠ D → O' b = some o) ∧ M.length = n ∧ IdsAt w' M (F9 f k X Y))
    ⟨w, _, [], none, rfl, ⟨s1, G3⟩, ExC.refl w, by rw [upd_ne nDt, upd_same]; rfl, fun b o e _ => e, rfl, fun n j h => by cases h⟩ (fun n σ' H' _ ⟨w', O', M, v, _, ⟨s', G'⟩, _, _, k', _⟩ => SqT.of (G'.sub (k' _ _ tO (Ne.symm nDt)))) ?_ ?_⟩
  · rintro n x σ' H' H'' hn ⟨w', O', M, v, rfl, ⟨s', G'⟩, x', hM, keep, eM, hMi⟩ ⟨rfl, hx⟩
    have hn9 : n < 9 := hn
    rw [List.getElem?_map, at9_at n hn9] at hx
    obtain rfl : V.int ((n / 3 * 4 + n % 3 : Nat) : Int) = x := Option.some.inj hx
    have hp' : H'' p = some (.lst (L.map fun j => V.int (j : Nat))) := G'.sub (keep p _ (by rw [upd_ne npt, upd_ne npD]; exact hp) npD)
    obtain ⟨dx', hg'⟩ := G'.ob
    have sel : ∀ r : Nat, r < 16 → ∃ j : Nat, atI (L.map fun j => V.int (j : Nat)) (r : Int) = some (.int (j : Nat)) ∧ w'.cs[j]? = some (F16 f (k + 1) X Y r) := fun r hr => by
      have hrL : r < L.length := by omega
      exact ⟨L[r], atI_nat (by rw [List.getElem?_map, List.getElem?_eq_getElem hrL]; rfl), x' _ _ (hL r _ (List.getElem?_eq_getElem hrL))⟩
    obtain ⟨a, a1, a2⟩ := sel (n / 3 * 4 + n % 3) (by omega)
    obtain ⟨b, b1, b2⟩ := sel (n / 3 * 4 + n % 3 + 1) (by omega)
    obtain ⟨c, c1, c2⟩ := sel (n / 3 * 4 + n % 3 + 4) (by omega)
    obtain ⟨d, d1, d2⟩ := sel (n / 3 * 4 + n % 3 + 5) (by omega)
    refine ⟨_, rfl, .inl ⟨rfl, _, SqL.of (G'.sub hM)⟩, _, rfl, g, dx', _, rfl, G'.sub hg', by rfl, _, rfl, _, rfl, p, _, _, _, rfl, rfl, SqL.of hp', a1, _, rfl, _, rfl, _, _, rfl, rfl, p, _, _, _, rfl, rfl, SqL.of hp', b1, _, rfl, _, rfl, _, _, rfl, rfl, p, _, _, _, rfl, rfl, SqL.of hp', c1, _, rfl, _, rfl, _, _, rfl, rfl, p, _, _, _, rfl, rfl, SqL.of hp', d1, ?_⟩
    have l16 : ∀ r, lev (F16 f (k + 1) X Y r) = k + 1 := fun r => lev_win _ _ _ _
    have w16 : ∀ r r', wf (lev (F16 f (k + 1) X Y r)) (F16 f (k + 1) X Y r') := fun r r' => by rw [l16]; exact wf_win _ _ _ _
    refine ⟨g, w', O', a, b, c, d, _, _, _, _, rfl, ⟨s', G'⟩, a2, b2, c2, d2, w16 _ _, w16 _ _, w16 _ _, by rw [l16]; omega, by rw [← F9_node f k X Y hn9]; exact hS n hn9, fun j w2 O2 H2 ⟨s2, G2'⟩ _ x2 m2 hj => ?_⟩
    rw [← F9_node f k X Y hn9] at hj
    have hD2 := m2 _ _ hM
    refine ⟨D, _, _, rfl, rfl, G2'.sub hD2, by rw [List.length_map, eM]; exact small1000 (by omega), ?_⟩
    have G4 := G2'.mut hD2 nDg (fun xs z => by cases z) (.lst ((M ++ [j]).map fun j => V.int (j : Nat)))
    rw [List.map_append] at G4
    refine ⟨w2, _, M ++ [j], _, rfl, ⟨s2, G4⟩, x'.trans x2, by rw [upd_same, List.map_append], fun b o e nb => by rw [upd_ne nb]; exact m2 _ _ (keep b o e nb), by rw [List.length_append, eM]; rfl, (hMi.mono x2).snoc (by rw [eM]; exact hj)⟩
  · rintro σ' H' ⟨w', O', M, v, rfl, G', x', hM, keep, eM, hMi⟩
    refine ⟨_, rfl, q D M w' O' H' G' x' (fun b o e => ?_) ?_ hM eM hMi⟩
    · have e1 := m1 _ _ e
      have nb : b ≠ D := ne_of_none e1 (G1.fresh hD)
      exact keep b o (m3 _ _ e1) nb
    · cases e : O D with
      | none => rfl
      | some o =>
        have e1 := G1.sub (m1 _ _ e)
        rw [hD] at e1
        cases e1
end
end Jf
/-! JfJ3 -/
set_option autoImplicit true
/-! fours_of, around_of, by_rule. -/
namespace Jf
open PySem PySem.Spec PyProof.Rows L2
/-- where four neighbouring ones of nine begin -/
def b9 (n : Nat) : Nat := n / 2 * 3 + n % 2
def at4 : List Nat := [0, 1, 3, 4]
theorem at4_at : ∀ n : Nat, n < 4 → at4[n]? = some (b9 n) := by decide
/-- the surroundings of one of sixteen -/
def arAt (sts : List Nat) (at_ : Nat) : List Nat := [sts.getD (at_ - 5) 0, sts.getD (at_ - 4) 0, sts.getD (at_ - 3) 0, sts.getD (at_ - 1) 0, sts.getD (at_ + 1) 0, sts.getD (at_ + 3) 0, sts.getD (at_ + 4) 0, sts.getD (at_ + 5) 0]
def offs : List Int := [-5, -4, -3, -1, 1, 3, 4, 5]
section
variable {P : Program} {w : World} {K : PySem.W.Frag} {mg : Str → Option Value} {base : Heap} {S : Q → Prop}
def spFours (K : PySem.W.Frag) : Sp := fun vs H Qk _ => ∃ (a : Addr) (L : List Nat), vs = [.ref a] ∧ H a = some (.lst (L.map fun j => V.int (j : Nat))) ∧ L.length = 9 ∧
  ∀ (p : Addr) (ts : List Addr) H', Same H H' → H p = none → H' p = some (.lst (ts.map V.ref)) → ts.length = 4 →
    (∀ (n : Nat) t, ts[n]? = some t → ∃ i0 i1 i2 i3 : Nat, H' t = some (.tup [.int (i0 : Nat), .int (i1 : Nat), .int (i2 : Nat), .int (i3 : Nat)]) ∧ L[b9 n]? = some i0 ∧ L[b9 n + 1]? = some i1 ∧ L[b9 n + 3]? = some i2 ∧ L[b9 n + 4]? = some i3) → Qk (.ref p) H'
theorem sc_fours_of : FnScope [("nine" : Str), ("at" : Str)] ["nine"] (defScope s_fours_of) := ⟨rfl, rfl, rfl, by decide +kernel, rfl, by decide +kernel, by decide +kernel⟩
theorem ok_fours_of (T : Txt K mg) : Ok P w K mg base ("fours_of", none) ["nine"] 1 (spFours K) := by
  refine Ok.of T.d_fours_of sc_fours_of (fun vs H Q E h => ?_) (fun cdv A outer s H vs Q E hr h => ?_)
  · obtain ⟨a, L, rfl, _⟩ := h
    rfl
  obtain ⟨a, L, rfl, ha, h9, q⟩ := h
  refine ⟨_, (pss_one (ps_ret (pe_lc (own := [("at", 1)]) (g := gName 1) (te := (tTup (tCons (tOp (rIxL K) (tVar 0) (tVar 1)) (tCons (tOp (rIxL K) (tVar 0) (tOp (rI0 fun i j => V.int (i + j)) (tVar 1) (tC (.int 1)))) (tCons (tOp (rIxL K) (tVar 0) (tOp (rI0 fun i j => V.int (i + j)) (tVar 1) (tC (.int 3)))) (tCons (tOp (rIxL K) (tVar 0) (tOp (rI0 fun i j => V.int (i + j)) (tVar 1) (tC (.int 4)))) tNil)))))) (by rfl) sc_fours_of.nd (pi_tup (pe_tup (pa_cons pe_int (pa_cons pe_int (pa_cons pe_int (pa_cons pe_int pa_nil)))))) (blkOk_by (own := [("at", 1)]) (N := [("nine" : Str), ("at" : Str)]) (sc := defScope s_fours_of) (by decide +kernel)) (fun _ _ _ _ _ => pg_name (i := 1) sc_fours_of.nd rfl (Or.inl rfl)) (fun _ _ _ _ _ => pts_nil) (fun _ _ _ _ _ => (pe_tup (pa_cons (pe_ix ix_list (pv 0) (pv 1) (fun _ _ => rfl)) (pa_cons (pe_ix ix_list (pv 0) (pe_op op_add (pv 1) pe_int) (fun _ _ => rfl)) (pa_cons (pe_ix ix_list (pv 0) (pe_op op_add (pv 1) pe_int) (fun _ _ => rfl)) (pa_cons (pe_ix ix_list (pv 0) (pe_op op_add (pv 1) pe_int) (fun _ _ => rfl)) pa_nil))))))))), ?_⟩
  refine ⟨by decide, fun t ht => ?_⟩
  have nat : a ≠ t := ne_of_none ha ht
  have s1 : Same H (upd H t (.tup (at4.map fun n => V.int (n : Nat)))) := same_new ht _
  refine ⟨t, rfl, ⟨at4.map fun n => V.int (n : Nat), SqT.of upd_same⟩, fun D hD => ?_⟩
  have ntD : t ≠ D := ne_of_none upd_same hD
  have naD : a ≠ D := ne_of_none (s1 _ _ ha) hD
  refine lc_map (walk_tup (K := K) (a := t) (xs := at4.map fun n => V.int (n : Nat))) (fun _ => rfl) (fun n H' => ∃ ts : List Addr, H' D = some (.lst (ts.map V.ref)) ∧ (∀ b o, (upd H t (.tup (at4.map fun n => V.int (n : Nat)))) b = some o → H' b = some o) ∧ ts.length = n ∧ (∀ b ∈ ts, b ≠ D) ∧
      (∀ (n : Nat) t, ts[n]? = some t → ∃ i0 i1 i2 i3 : Nat, H' t = some (.tup [.int (i0 : Nat), .int (i1 : Nat), .int (i2 : Nat), .int (i3 : Nat)]) ∧ L[b9 n]? = some i0 ∧ L[b9 n + 1]? = some i1 ∧ L[b9 n + 3]? = some i2 ∧ L[b9 n + 4]? = some i3))
    ⟨[], upd_same, same_new hD _, rfl, fun b hb => (by cases hb), fun n t h => by cases h⟩ (fun n H' _ ⟨ts, _, k', _⟩ => SqT.of (k' _ _ upd_same)) ?_ ?_
  · rintro n x H1 H2 hn ⟨ts, hD1, keep, el, nb, hts⟩ ⟨rfl, hx⟩
    have hn4 : n < 4 := hn
    rw [List.getElem?_map, at4_at n hn4] at hx
    obtain rfl : V.int (b9 n : Nat) = x := Option.some.inj hx
    have ha2 := keep _ _ (s1 _ _ ha)
    have hb : b9 n + 4 < 9 := by unfold b9; omega
    have sel : ∀ r : Nat, r < 9 → ∃ j : Nat, atI (L.map fun j => V.int (j : Nat)) (r : Int) = some (.int (j : Nat)) ∧ L[r]? = some j := fun r hr => by
      have hrL : r < L.length := by omega
      exact ⟨L[r], atI_nat (by rw [List.getElem?_map, List.getElem?_eq_getElem hrL]; rfl), List.getElem?_eq_getElem hrL⟩
    obtain ⟨i0, a0, c0⟩ := sel (b9 n) (by omega)
    obtain ⟨i1, a1, c1⟩ := sel (b9 n + 1) (by omega)
    obtain ⟨i2, a2, c2⟩ := sel (b9 n + 3) (by omega)
    obtain ⟨i3, a3, c3⟩ := sel (b9 n + 4) (by omega)
    refine ⟨_, rfl, _, rfl, a, _, _, _, rfl, rfl, SqL.of ha2, a0, _, rfl, _, rfl, _, _, rfl, rfl, a, _, _, _, rfl, rfl, SqL.of ha2, a1, _, rfl, _, rfl, _, _, rfl, rfl, a, _, _, _, rfl, rfl, SqL.of ha2, a2, _, rfl, _, rfl, _, _, rfl, rfl, a, _, _, _, rfl, rfl, SqL.of ha2, a3, (by show 4 ≤ sizeLine; decide), fun u hu => ?_⟩
    have nuD : D ≠ u := ne_of_none hD1 hu
    refine ⟨_, by rw [upd_ne nuD]; exact hD1, by rw [List.length_map, el]; exact small1000 (by omega), ts ++ [u], by rw [upd_same, List.map_append]; rfl, fun b o e => ?_, by rw [List.length_append, el]; rfl, fun b hb => ?_, fun n' t' h => ?_⟩
    · have e1 := keep b o e
      rw [upd_ne (ne_of_none e hD), upd_ne (ne_of_none e1 hu)]
      exact e1
    · rcases List.mem_append.mp hb with hb | hb
      · exact nb b hb
      · rw [List.mem_singleton.mp hb]; exact Ne.symm nuD
    · by_cases hn' : n' < ts.length
      · rw [List.getElem?_append_left hn'] at h
        obtain ⟨j0, j1, j2, j3, y0, y⟩ := hts n' t' h
        exact ⟨j0, j1, j2, j3, by rw [upd_ne (nb t' (List.mem_of_getElem? h)), upd_ne (ne_of_none y0 hu)]; exact y0, y⟩
      · have en : n' = n := by
          have := (List.getElem?_eq_some_iff.mp h).1
          rw [List.length_append, List.length_singleton] at this
          omega
        subst en
        rw [List.getElem?_append_right (by omega), el, Nat.sub_self] at h
        obtain rfl : u = t' := Option.some.inj h
        exact ⟨i0, i1, i2, i3, by rw [upd_ne (Ne.symm nuD), upd_same], c0, c1, c2, c3⟩
  · rintro H1 ⟨ts, hD1, keep, el, nb, hts⟩
    exact q D ts H1 (fun b o e => keep b o (s1 _ _ e)) (by rw [upd_ne (Ne.symm ntD)] at hD; exact hD) hD1 el hts
def spAround (K : PySem.W.Frag) : Sp := fun vs H Qk _ => ∃ (a : Addr) (sts : List Nat) (at_ : Nat), vs = [.ref a, .int (at_ : Nat)] ∧ H a = some (.lst (sts.map fun j => V.int (j : Nat))) ∧ sts.length = 16 ∧ 5 ≤ at_ ∧ at_ ≤ 10 ∧
  ∀ (p : Addr) H', Same H H' → H p = none → H' p = some (.lst ((arAt sts at_).map fun j => V.int (j : Nat))) → Qk (.ref p) H'
theorem sc_around_of : FnScope [("states" : Str), ("at" : Str), ("off" : Str)] ["states", "at"] (defScope s_around_of) := ⟨rfl, rfl, rfl, by decide +kernel, rfl, by decide +kernel, by decide +kernel⟩
theorem ok_around_of (T : Txt K mg) : Ok P w K mg base ("around_of", none) ["states", "at"] 1 (spAround K) := by
  refine Ok.of T.d_around_of sc_around_of (fun vs H Q E h => ?_) (fun cdv A outer s H vs Q E hr h => ?_)
  · obtain ⟨a, sts, at_, rfl, _⟩ := h
    rfl
  obtain ⟨a, sts, at_, rfl, ha, h16, h5, h10, q⟩ := h
  refine ⟨_, (pss_one (ps_ret (pe_lc (own := [("off", 2)]) (g := gName 2) (te := (tOp (rIxL K) (tVar 0) (tOp (rI0 fun i j => V.int (i + j)) (tVar 1) (tVar 2)))) (by rfl) sc_around_of.nd (pi_tup (pe_tup (pa_cons (pe_un un_neg pe_int) (pa_cons (pe_un un_neg pe_int) (pa_cons (pe_un un_neg pe_int) (pa_cons (pe_un un_neg pe_int) (pa_cons pe_int (pa_cons pe_int (pa_cons pe_int (pa_cons pe_int pa_nil)))))))))) (blkOk_by (own := [("off", 2)]) (N := [("states" : Str), ("at" : Str), ("off" : Str)]) (sc := defScope s_around_of) (by decide +kernel)) (fun _ _ _ _ _ => pg_name (i := 2) sc_around_of.nd rfl (Or.inl rfl)) (fun _ _ _ _ _ => pts_nil) (fun _ _ _ _ _ => (pe_ix ix_list (pv 0) (pe_op op_add (pv 1) (pv 2)) (fun _ _ => rfl)))))), ?_⟩
  refine ⟨_, rfl, _, rfl, _, rfl, _, rfl, by decide, fun t ht => ?_⟩
  have s1 : Same H (upd H t (.tup (offs.map V.int))) := same_new ht _
  refine ⟨t, rfl, ⟨offs.map V.int, SqT.of upd_same⟩, fun D hD => ?_⟩
  have ntD : t ≠ D := ne_of_none upd_same hD
  have naD : a ≠ D := ne_of_none (s1 _ _ ha) hD
  refine lc_map (walk_tup (K := K) (a := t) (xs := offs.map V.int)) (fun _ => rfl) (fun n H' => H' = upd (upd H t (.tup (offs.map V.int))) D (.lst (((arAt sts at_).take n).map fun j => V.int (j : Nat)))) rfl (fun n H' _ e => by rw [e]; exact SqT.of (by rw [upd_ne ntD]; exact upd_same)) ?_ ?_
  · rintro n x H1 H2 hn rfl ⟨rfl, hx⟩
    have hn8 : n < 8 := hn
    have hx : (offs.map V.int)[n]? = some x := hx
    have key : ∃ r : Nat, ∃ o : Int, x = .int o ∧ (at_ : Int) + o = (r : Nat) ∧ r < 16 ∧ (arAt sts at_)[n]? = some (sts.getD r 0) := by
      rcases (show n = 0 ∨ n = 1 ∨ n = 2 ∨ n = 3 ∨ n = 4 ∨ n = 5 ∨ n = 6 ∨ n = 7 by omega) with rfl | rfl | rfl | rfl | rfl | rfl | rfl | rfl
      · exact ⟨at_ - 5, -5, (Option.some.inj hx).symm, by omega, by omega, rfl⟩
      · exact ⟨at_ - 4, -4, (Option.some.inj hx).symm, by omega, by omega, rfl⟩
      · exact ⟨at_ - 3, -3, (Option.some.inj hx).symm, by omega, by omega, rfl⟩
      · exact ⟨at_ - 1, -1, (Option.some.inj hx).symm, by omega, by omega, rfl⟩
      · exact ⟨at_ + 1, 1, (Option.some.inj hx).symm, by omega, by omega, rfl⟩
      · exact ⟨at_ + 3, 3, (Option.some.inj hx).symm, by omega, by omega, rfl⟩
      · exact ⟨at_ + 4, 4, (Option.some.inj hx).symm, by omega, by omega, rfl⟩
      · exact ⟨at_ + 5, 5, (Option.some.inj hx).symm, by omega, by omega, rfl⟩
    obtain ⟨r, o, rfl, er, hr16, har⟩ := key
    have hrL : r < sts.length := by omega
    have eg : sts.getD r 0 = sts[r] := by rw [List.getD_eq_getElem?_getD, List.getElem?_eq_getElem hrL]; rfl
    refine ⟨_, rfl, _, rfl, _, rfl, _, _, rfl, rfl, ?_⟩
    dsimp only
    rw [er]
    refine ⟨a, _, _, .int (sts[r] : Nat), rfl, rfl, SqL.of (by rw [upd_ne naD]; exact s1 _ _ ha), atI_nat (by rw [List.getElem?_map, List.getElem?_eq_getElem hrL]; rfl), ?_⟩
    refine ⟨_, upd_same, ?_, ?_⟩
    · rw [List.length_map, List.length_take]
      exact small1000 (by omega)
    · rw [upd_upd, List.take_succ, har, List.map_append, eg]
      rfl
  · rintro H1 rfl
    refine q D _ (s1.trans (same_new hD _)) (by rw [upd_ne (Ne.symm ntD)] at hD; exact hD) ?_
    rw [upd_same]
    rfl
end
end Jf
/-! JfJ4 -/
set_option autoImplicit true
/-! by_rule. -/
namespace Jf
open PySem PySem.Spec PyProof.Rows L2
/-- the eight about a place -/
def surr (f : Pl) (x y : Int) : List Nat := [f (x - 1) (y - 1), f x (y - 1), f (x + 1) (y - 1), f (x - 1) y, f (x + 1) y, f (x - 1) (y + 1), f x (y + 1), f (x + 1) (y + 1)]
/-- a rule that glides -/
structure RuleGl (cs : List Cl) (gl : Gl) : Prop where
  eight : ∀ c ∈ cs, ∀ ws ∈ c.wants, ws.length = 8
  law : ∀ (f : Pl) (x y : Int), (∀ x y, f x y ≤ 7) → firstFit cs (f x y) (surr f x y) = gl.m (f (x + gl.ox) (y + gl.oy))
def JoAt (K : PySem.W.Frag) (O : Hp) (jp g r d : Addr) : Prop := ∃ dj, O jp = some (.ins (CJ K) dj (jfs g r d))
theorem JoAt.same {K : PySem.W.Frag} {O O' : Hp} {jp g r d : Addr} (h : JoAt K O jp g r d) (e : Same O O') : JoAt K O' jp g r d := by
  obtain ⟨dj, h⟩ := h
  exact ⟨dj, e _ _ h⟩
/-- the sixteen states -/
def st16 (f : Pl) (X Y : Int) : List Nat := (List.range 16).map fun n => f (X + ((n % 4 : Nat) : Int)) (Y + ((n / 4 : Nat) : Int))
theorem st16_at (f : Pl) (X Y : Int) {n : Nat} (h : n < 16) : (st16 f X Y)[n]? = some (f (X + ((n % 4 : Nat) : Int)) (Y + ((n / 4 : Nat) : Int))) := by
  unfold st16
  rw [List.getElem?_map, List.getElem?_range h]
  rfl
theorem F16_leaf (f : Pl) (X Y : Int) (n : Nat) : F16 f 0 X Y n = .leaf (f (X + ((n % 4 : Nat) : Int)) (Y + ((n / 4 : Nat) : Int))) := by
  unfold F16
  rw [p2_zero, Int.mul_one, Int.mul_one]
  rfl
theorem arAt_surr (f : Pl) (X Y : Int) {a : Nat} (h : a = 5 ∨ a = 6 ∨ a = 9 ∨ a = 10) : arAt (st16 f X Y) a = surr f (X + ((a % 4 : Nat) : Int)) (Y + ((a / 4 : Nat) : Int)) := by
  have g : ∀ n, n < 16 → (st16 f X Y).getD n 0 = f (X + ((n % 4 : Nat) : Int)) (Y + ((n / 4 : Nat) : Int)) := fun n hn => by
    rw [List.getD_eq_getElem?_getD, st16_at f X Y hn]; rfl
  have c : ∀ (n : Nat) (u v : Int), n < 16 → X + ((n % 4 : Nat) : Int) = u → Y + ((n / 4 : Nat) : Int) = v → (st16 f X Y).getD n 0 = f u v := fun n u v hn h1 h2 => by rw [g n hn, h1, h2]
  unfold arAt surr
  rw [c (a - 5) (X + ((a % 4 : Nat) : Int) - 1) (Y + ((a / 4 : Nat) : Int) - 1) (by omega) (by omega) (by omega),
    c (a - 4) (X + ((a % 4 : Nat) : Int)) (Y + ((a / 4 : Nat) : Int) - 1) (by omega) (by omega) (by omega),
    c (a - 3) (X + ((a % 4 : Nat) : Int) + 1) (Y + ((a / 4 : Nat) : Int) - 1) (by omega) (by omega) (by omega),
    c (a - 1) (X + ((a % 4 : Nat) : Int) - 1) (Y + ((a / 4 : Nat) : Int)) (by omega) (by omega) (by omega),
    c (a + 1) (X + ((a % 4 : Nat) : Int) + 1) (Y + ((a / 4 : Nat) : Int)) (by omega) (by omega) (by omega),
    c (a + 3) (X + ((a % 4 : Nat) : Int) - 1) (Y + ((a / 4 : Nat) : Int) + 1) (by omega) (by omega) (by omega),
    c (a + 4) (X + ((a % 4 : Nat) : Int)) (Y + ((a / 4 : Nat) : Int) + 1) (by omega) (by omega) (by omega),
    c (a + 5) (X + ((a % 4 : Nat) : Int) + 1) (Y + ((a / 4 : Nat) : Int) + 1) (by omega) (by omega) (by omega)]
def at5 : List Nat := [5, 6, 9, 10]
theorem at5_at : ∀ n : Nat, n < 4 → at5[n]? = some (5 + n / 2 * 4 + n % 2) := by decide
section
variable {P : Program} {w : World} {K : PySem.W.Frag} {mg : Str → Option Value} {base : Heap} {S : Q → Prop}
def spByRule (K : PySem.W.Frag) (S : Q → Prop) : Sp := fun vs H Qk _ => ∃ (jp g r d : Addr) (cs : List Cl) (gl : Gl) (w : GWd) (O : Hp) (i : Nat) (f : Pl) (X Y : Int), vs = [.ref jp, .int (i : Nat)] ∧ JoAt K O jp g r d ∧ RuleIs K O r cs ∧ RuleGl cs gl ∧ (∀ x y, f x y ≤ 7) ∧
  GV K S g w O H ∧ w.cs[i]? = some (win f 2 X Y) ∧ S (win (ev gl 1 f) 1 (X + 1) (Y + 1)) ∧ Gives K S g w O (win (ev gl 1 f) 1 (X + 1) (Y + 1)) Qk
theorem sc_Jumps_by_rule : FnScope [("self" : Str), ("square" : Str), ("states" : Str), ("made" : Str), ("at" : Str), ("one" : Str)] ["self", "square"] (defScope s_Jumps_by_rule) := ⟨rfl, rfl, rfl, by decide +kernel, rfl, by decide +kernel, by decide +kernel⟩
theorem ok_Jumps_by_rule (T : Txt K mg) : Ok P w K mg base ("Jumps", some "by_rule") ["self", "square"] 5 (spByRule K S) := by
  obtain ⟨fd_sixteen, G_sixteen, b_sixteen, k_sixteen⟩ := ok_sixteen (P := P) (w := w) (base := base) (S := S) T
  obtain ⟨fd_Grove_state_of, G_Grove_state_of, b_Grove_state_of, k_Grove_state_of⟩ := ok_Grove_state_of (P := P) (w := w) (base := base) (S := S) T
  obtain ⟨fd_Grove_leaf, G_Grove_leaf, b_Grove_leaf, k_Grove_leaf⟩ := ok_Grove_leaf (P := P) (w := w) (base := base) (S := S) T
  obtain ⟨fd_becomes, G_becomes, b_becomes, k_becomes⟩ := ok_becomes (P := P) (w := w) (base := base) T
  obtain ⟨fd_around_of, G_around_of, b_around_of, k_around_of⟩ := ok_around_of (P := P) (w := w) (base := base) T
  obtain ⟨fd_Grove_knit, G_Grove_knit, b_Grove_knit, k_Grove_knit⟩ := ok_Grove_knit (P := P) (w := w) (base := base) (S := S) T
  refine Ok.of T.d_Jumps_by_rule sc_Jumps_by_rule (fun vs H Q E h => ?_) (fun cdv A outer s H vs Q E hr h => ?_)
  · obtain ⟨jp, g, r, d, cs, gl, w, O, i, f, X, Y, rfl, _⟩ := h
    rfl
  obtain ⟨jp, g, r, d, cs, gl, w, O, i, f, X, Y, rfl, hJ, hR, hgl, h7, ⟨s, G⟩, hi, hS, q⟩ := h
  obtain ⟨dj, hj⟩ := id hJ
  refine ⟨_, (pss_cons (ps_setLc (i := 2) (own := [("one", 5)]) (g := gName 5) (te := tMeth (CG K) "state_of" (spStateOf K S) [] E0 (tFld K (tVar 0) "grove") (tCons (tVar 5) tNil)) (by rfl) sc_Jumps_by_rule.nd rfl rfl (sw_true rfl rfl rfl (by decide +kernel)) (pi_list (pe_call G_sixteen (hr.mono (by omega)) (by rfl) T.g_sixteen k_sixteen b_sixteen .nil pass0 (pa_cons (pe_fld (pv 0) rfl) (pa_cons (pv 1) pa_nil)))) (blkOk_by (own := [("one", 5)]) (N := [("self" : Str), ("square" : Str), ("states" : Str), ("made" : Str), ("at" : Str), ("one" : Str)]) (sc := defScope s_Jumps_by_rule) (by decide +kernel)) (fun _ _ _ _ _ => pg_name (i := 5) sc_Jumps_by_rule.nd rfl (Or.inl rfl)) (fun _ _ _ _ _ => pts_nil) (fun _ _ _ _ _ => (pe_meth (pe_fld (pv 0) rfl) T.c_Grove T.m_Grove_state_of G_Grove_state_of (hr.mono (by omega)) b_Grove_state_of .nil pass0 (pa_cons (pv 5) pa_nil))))
      (pss_cons (ps_set (i := 3) sc_Jumps_by_rule.nd rfl (Or.inl rfl) (pe_lst pa_nil))
      (pss_cons (ps_for PassesOwn.never (by rfl) (pi_tup (pe_tup (pa_cons pe_int (pa_cons pe_int (pa_cons pe_int (pa_cons pe_int pa_nil)))))) (pg_name (i := 4) sc_Jumps_by_rule.nd rfl (Or.inl rfl)) (pss_one (ps_expr (pe_bm PySem.F.plainAttrs_list PySem.F.slot_list_append PySem.F.type_list_append mt_append (pv 3) (pa_cons (pe_meth (pe_fld (pv 0) rfl) T.c_Grove T.m_Grove_leaf G_Grove_leaf (hr.mono (by omega)) b_Grove_leaf .nil pass0 (pa_cons (pe_call G_becomes (hr.mono (by omega)) (by rfl) T.g_becomes k_becomes b_becomes .nil pass0 (pa_cons (pe_fld (pv 0) rfl) (pa_cons (pe_ix ix_list (pv 2) (pv 4) (fun _ _ => rfl)) (pa_cons (pe_call G_around_of (hr.mono (by omega)) (by rfl) T.g_around_of k_around_of b_around_of .nil pass0 (pa_cons (pv 2) (pa_cons (pv 4) pa_nil))) pa_nil)))) pa_nil)) pa_nil)))))
      (pss_one (ps_ret (pe_meth (pe_fld (pv 0) rfl) T.c_Grove T.m_Grove_knit G_Grove_knit (hr.mono (by omega)) b_Grove_knit .nil pass0 (pa_cons (pe_ix ix_list (pv 3) pe_int (fun _ _ => rfl)) (pa_cons (pe_ix ix_list (pv 3) pe_int (fun _ _ => rfl)) (pa_cons (pe_ix ix_list (pv 3) pe_int (fun _ _ => rfl)) (pa_cons (pe_ix ix_list (pv 3) pe_int (fun _ _ => rfl)) pa_nil)))))))))), ?_⟩
  refine ⟨_, rfl, jp, _, dj, _, _, rfl, G.sub hj, T.c_Jumps, T.n_Jumps_grove, jfs_grove g r d, _, rfl, g, w, O, i, f, 0, X, Y, rfl, ⟨s, G⟩, hi, fun p L O1 H1 ⟨s1, G1⟩ m1 np hp e16 hL => ?_⟩
  have hj1 := m1 _ _ hj
  refine ⟨p, rfl, ⟨_, SqL.of (G1.sub hp)⟩, fun D hD => lc_map (walk_list (K := K) (a := p) (xs := L.map fun j => V.int (j : Nat))) (fun _ => rfl) (fun n H' => H' = upd H1 D (.lst (((st16 f X Y).take n).map fun j => V.int (j : Nat)))) rfl (fun n H' _ e => ?_) ?_ ?_⟩
  · rw [e]; exact SqL.of (by rw [upd_ne (ne_of_none (G1.sub hp) hD)]; exact G1.sub hp)
  · rintro n x H2 H3 hn rfl ⟨rfl, hx⟩
    rw [List.length_map, e16] at hn
    have hnL : n < L.length := by omega
    rw [List.getElem?_map, List.getElem?_eq_getElem hnL] at hx
    obtain rfl : V.int (L[n] : Nat) = x := Option.some.inj hx
    have hc := hL n _ (List.getElem?_eq_getElem hnL)
    rw [F16_leaf] at hc
    have G2 := G1.new hD (.lst (((st16 f X Y).take n).map fun j => V.int (j : Nat)))
    obtain ⟨dx2, hg2⟩ := G2.ob
    have njD : jp ≠ D := ne_of_none (G1.sub hj1) hD
    refine ⟨_, rfl, jp, _, dj, _, _, rfl, G2.sub (by rw [upd_ne njD]; exact hj1), T.c_Jumps, T.n_Jumps_grove, jfs_grove g r d, g, dx2, _, rfl, G2.sub hg2, by rfl, _, rfl, g, w, _, L[n], _, rfl, ⟨s1, G2⟩, hc, ?_⟩
    refine ⟨_, upd_same, ?_, ?_⟩
    · rw [List.length_map, List.length_take]; exact small1000 (by omega)
    · rw [upd_upd, List.take_succ, st16_at f X Y hn, List.map_append]
      rfl
  rintro H2 rfl
  rw [List.length_map, e16, List.take_of_length_le (show (st16 f X Y).length ≤ 16 from Nat.le_refl _)]
  have G2 := G1.new hD (.lst ((st16 f X Y).map fun j => V.int (j : Nat)))
  refine ⟨Nat.zero_le _, fun M hM => ?_⟩
  have G3 := G2.new hM (.lst [])
  have nDM : D ≠ M := ne_of_none upd_same hM
  refine ⟨by decide, fun t ht => ?_⟩
  have G4 := G3.new ht (.tup (at5.map fun n => V.int (n : Nat)))
  have nMt : M ≠ t := ne_of_none upd_same ht
  have m4 : Same O1 (upd (upd (upd O1 D (.lst ((st16 f X Y).map fun j => V.int (j : Nat)))) M (.lst [])) t (.tup (at5.map fun n => V.int (n : Nat)))) := (same_new (G1.fresh hD) _).trans ((same_new (G2.fresh hM) _).trans (same_new (G3.fresh ht) _))
  obtain ⟨dx4, hg4⟩ := G4.ob
  have nMg : M ≠ g := fun e => by
    obtain ⟨dx2, hg2⟩ := G2.ob
    rw [e, G2.sub hg2] at hM
    cases hM
  have nOM : ∀ b o, O1 b = some o → b ≠ M := fun b o e => ne_of_none ((same_new (G1.fresh hD) _) _ _ e) (G2.fresh hM)
  have tO : (upd (upd (upd O1 D (.lst ((st16 f X Y).map fun j => V.int (j : Nat)))) M (.lst [])) t (.tup (at5.map fun n => V.int (n : Nat)))) t = some (.tup (at5.map fun n => V.int (n : Nat))) := upd_same
  have nDt : D ≠ t := ne_of_none (by rw [upd_ne nDM]; exact upd_same) ht
  have dO : (upd (upd (upd O1 D (.lst ((st16 f X Y).map fun j => V.int (j : Nat)))) M (.lst [])) t (.tup (at5.map fun n => V.int (n : Nat)))) D = some (.lst ((st16 f X Y).map fun j => V.int (j : Nat))) := by rw [upd_ne nDt, upd_ne nDM, upd_same]
  have hR1 := hR.same (m1.trans m4)
  refine ⟨t, rfl, ⟨at5.map fun n => V.int (n : Nat), SqT.of upd_same⟩, for_it (walk_tup (K := K) (a := t) (xs := at5.map fun n => V.int (n : Nat))) (fun n σ' H' => ∃ (w' : GWd) (O' : Hp) (B : List Nat) (v : Option V), σ' = [some (.ref jp), some (.int (i : Nat)), some (.ref D), some (.ref M), v, none] ∧ GV K S g w' O' H' ∧ ExC w w' ∧ O' M = some (.lst (B.map fun j => V.int (j : Nat))) ∧
      (∀ b o, (upd (upd (upd O1 D (.lst ((st16 f X Y).map fun j => V.int (j : Nat)))) M (.lst [])) t (.tup (at5.map fun n => V.int (n : Nat)))) b = some o → b ≠ M → O' b = some o) ∧ B.length = n ∧ IdsAt w' B (fun m => .leaf (ev gl 1 f (X + 1 + ((m % 2 : Nat) : Int)) (Y + 1 + ((m / 2 : Nat) : Int)))))
    ⟨w, _, [], none, rfl, ⟨s1, G4⟩, ExC.refl w, by rw [upd_ne nMt, upd_same]; rfl, fun b o e _ => e, rfl, fun n j h => by cases h⟩ (fun n σ' H' _ ⟨w', O', B, v, _, ⟨s', G'⟩, _, _, k', _⟩ => SqT.of (G'.sub (k' _ _ tO (Ne.symm nMt)))) ?_ ?_⟩
  · rintro n x σ' H' H'' hn ⟨w', O', B, v, rfl, ⟨s', G'⟩, x', hB, keep, eB, hBi⟩ ⟨rfl, hx⟩
    have hn4 : n < 4 := hn
    rw [List.getElem?_map, at5_at n hn4] at hx
    obtain rfl : V.int ((5 + n / 2 * 4 + n % 2 : Nat) : Int) = x := Option.some.inj hx
    obtain ⟨a, ha⟩ : ∃ a, a = 5 + n / 2 * 4 + n % 2 := ⟨_, rfl⟩
    rw [← ha]
    have ha4 : a = 5 ∨ a = 6 ∨ a = 9 ∨ a = 10 := by omega
    have ha16 : a < 16 := by omega
    have hj' := keep _ _ (m4 _ _ hj1) (nOM _ _ hj1)
    have hD' := keep _ _ dO nDM
    obtain ⟨dx', hg'⟩ := G'.ob
    have hR' : RuleIs K O' r cs := by
      obtain ⟨dr, lr, pr, r1, r2, r3, r4⟩ := hR.same m1
      refine ⟨dr, lr, pr, keep _ _ (m4 _ _ r1) (nOM _ _ r1), keep _ _ (m4 _ _ r2) (nOM _ _ r2), r3, fun i2 q2 c2 a2 b2 => ?_⟩
      obtain ⟨dc, lc, pc, c1, c3, c4, c5⟩ := r4 i2 q2 c2 a2 b2
      refine ⟨dc, lc, pc, keep _ _ (m4 _ _ c1) (nOM _ _ c1), keep _ _ (m4 _ _ c3) (nOM _ _ c3), c4, fun i3 q3 ws3 a3 b3 => ?_⟩
      obtain ⟨dp, lp, p1, p3⟩ := c5 i3 q3 ws3 a3 b3
      exact ⟨dp, lp, keep _ _ (m4 _ _ p1) (nOM _ _ p1), keep _ _ (m4 _ _ p3) (nOM _ _ p3)⟩
    refine ⟨_, rfl, .inl ⟨rfl, _, SqL.of (G'.sub hB)⟩, _, rfl, jp, _, dj, _, _, rfl, G'.sub hj', T.c_Jumps, T.n_Jumps_grove, jfs_grove g r d, g, dx', _, rfl, G'.sub hg', by rfl, ?_⟩
    refine ⟨_, rfl, jp, _, dj, _, _, rfl, G'.sub hj', T.c_Jumps, T.n_Jumps_rule, jfs_rule g r d, _, rfl, _, rfl, D, _, _, _, rfl, rfl, SqL.of (G'.sub hD'), atI_nat (by rw [List.getElem?_map, st16_at f X Y ha16]; rfl), ?_⟩
    refine ⟨_, rfl, _, rfl, D, st16 f X Y, a, rfl, G'.sub hD', rfl, by omega, by omega, fun u H5 e5 nu hu => ?_⟩
    refine ⟨r, u, cs, _, _, rfl, (hR'.same G'.same).same e5, hu, fun c hc ws hws => by rw [hgl.eight c hc ws hws]; rfl, fun H6 e6 => ?_⟩
    rw [arAt_surr f X Y ha4, hgl.law f _ _ h7]
    obtain ⟨O6, G6, m6, _⟩ := G'.after (e5.trans e6)
    refine ⟨g, w', O6, _, rfl, ⟨s', G6⟩, gl.le _ (h7 _ _), fun j w7 O7 H7 ⟨s7, G7⟩ _ x7 m7 hj7 => ?_⟩
    have hM7 := m7 _ _ (m6 _ _ hB)
    refine ⟨M, _, _, rfl, rfl, G7.sub hM7, by rw [List.length_map, eB]; exact small1000 (by omega), ?_⟩
    have G8 := G7.mut hM7 nMg (fun xs z => by cases z) (.lst ((B ++ [j]).map fun j => V.int (j : Nat)))
    rw [List.map_append] at G8
    refine ⟨w7, _, B ++ [j], _, rfl, ⟨s7, G8⟩, x'.trans x7, by rw [upd_same, List.map_append], fun b o e nb => by rw [upd_ne nb]; exact m7 _ _ (m6 _ _ (keep b o e nb)), by rw [List.length_append, eB]; rfl, (hBi.mono x7).snoc ?_⟩
    rw [hj7, eB]
    have e1 : X + ((a % 4 : Nat) : Int) = X + 1 + ((n % 2 : Nat) : Int) := by omega
    have e2 : Y + ((a / 4 : Nat) : Int) = Y + 1 + ((n / 2 : Nat) : Int) := by omega
    rw [ev_one, e1, e2]
  · rintro σ' H' ⟨w', O', B, v, rfl, ⟨s', G'⟩, x', hB, keep, eB, hBi⟩
    have eB : B.length = 4 := eB
    have hj' := keep _ _ (m4 _ _ hj1) (nOM _ _ hj1)
    obtain ⟨dx', hg'⟩ := G'.ob
    have sel : ∀ n : Nat, n < 4 → ∃ j : Nat, atI (B.map fun j => V.int (j : Nat)) (n : Int) = some (.int (j : Nat)) ∧ w'.cs[j]? = some (.leaf (ev gl 1 f (X + 1 + ((n % 2 : Nat) : Int)) (Y + 1 + ((n / 2 : Nat) : Int)))) := fun n hn => by
      have hrL : n < B.length := by omega
      exact ⟨B[n], atI_nat (by rw [List.getElem?_map, List.getElem?_eq_getElem hrL]; rfl), hBi n _ (List.getElem?_eq_getElem hrL)⟩
    obtain ⟨i0, a0, c0⟩ := sel 0 (by omega)
    obtain ⟨i1, a1, c1⟩ := sel 1 (by omega)
    obtain ⟨i2, a2, c2⟩ := sel 2 (by omega)
    obtain ⟨i3, a3, c3⟩ := sel 3 (by omega)
    have ew : win (ev gl 1 f) 1 (X + 1) (Y + 1) = .node (.leaf (ev gl 1 f (X + 1 + ((0 % 2 : Nat) : Int)) (Y + 1 + ((0 / 2 : Nat) : Int)))) (.leaf (ev gl 1 f (X + 1 + ((1 % 2 : Nat) : Int)) (Y + 1 + ((1 / 2 : Nat) : Int)))) (.leaf (ev gl 1 f (X + 1 + ((2 % 2 : Nat) : Int)) (Y + 1 + ((2 / 2 : Nat) : Int)))) (.leaf (ev gl 1 f (X + 1 + ((3 % 2 : Nat) : Int)) (Y + 1 + ((3 / 2 : Nat) : Int)))) := by
      rw [win_succ]
      refine node_congr ?_ ?_ ?_ ?_ <;> exact congrArg Jf.Q.leaf (by congr 1 <;> simp [p2_zero])
    have ml := SqL.of (K := K) (G'.sub hB)
    refine ⟨_, rfl, jp, _, dj, _, _, rfl, G'.sub hj', T.c_Jumps, T.n_Jumps_grove, jfs_grove g r d, g, dx', _, rfl, G'.sub hg', by rfl, _, rfl, M, _, _, _, rfl, rfl, ml, a0, _, rfl, M, _, _, _, rfl, rfl, ml, a1, _, rfl, M, _, _, _, rfl, rfl, ml, a2, _, rfl, M, _, _, _, rfl, rfl, ml, a3, ?_⟩
    refine ⟨g, w', O', i0, i1, i2, i3, _, _, _, _, rfl, ⟨s', G'⟩, c0, c1, c2, c3, True.intro, True.intro, True.intro, by show 0 ≤ 47; omega, by rw [← ew]; exact hS, fun j w2 O2 H2 G2' _ x2 m2 hj2 => ?_⟩
    rw [← ew] at hj2
    refine q j w2 O2 H2 G2' (x'.trans x2) (fun b o e => m2 _ _ (keep _ _ (m4 _ _ (m1 _ _ e)) (nOM _ _ (m1 _ _ e)))) hj2
end
end Jf
/-! JfJ5 -/
set_option autoImplicit true
/-! What a Jumps remembers. -/
namespace Jf
open PySem PySem.Spec PyProof.Rows L2
/-- what is inside a square tells its middle n steps on -/
theorem ev_local {gl : Gl} {n j : Nat} (hn : (n : Int) ≤ p2 j) {f f' : Pl} {X Y X' Y' : Int} (h : win f (j + 2) X Y = win f' (j + 2) X' Y') : win (ev gl n f) (j + 1) (X + p2 j) (Y + p2 j) = win (ev gl n f') (j + 1) (X' + p2 j) (Y' + p2 j) := by
  have e := win_inj h
  have s1 := p2_succ j
  have s2 : p2 (j + 2) = 2 * p2 (j + 1) := p2_succ (j + 1)
  have m1 := mul_unit (n := n) gl.hx
  have m2 := mul_unit (n := n) gl.hy
  refine win_ext fun i k h1 h2 h3 h4 => ?_
  show it gl.m n (f (X + p2 j + i + n * gl.ox) (Y + p2 j + k + n * gl.oy)) = it gl.m n (f' (X' + p2 j + i + n * gl.ox) (Y' + p2 j + k + n * gl.oy))
  have q := e (p2 j + i + n * gl.ox) (p2 j + k + n * gl.oy) (by omega) (by omega) (by omega) (by omega)
  rw [show X + (p2 j + i + n * gl.ox) = X + p2 j + i + n * gl.ox by omega, show Y + (p2 j + k + n * gl.oy) = Y + p2 j + k + n * gl.oy by omega, show X' + (p2 j + i + n * gl.ox) = X' + p2 j + i + n * gl.ox by omega, show Y' + (p2 j + k + n * gl.oy) = Y' + p2 j + k + n * gl.oy by omega] at q
  rw [q]
def Ent (gl : Gl) (w : GWd) (l : List Int) (v : V) : Prop := ∃ (i e r j : Nat) (f : Pl) (x y : Int), l = [(i : Int), (e : Int)] ∧ v = .int (r : Nat) ∧ e ≤ j ∧ w.cs[i]? = some (win f (j + 2) x y) ∧ w.cs[r]? = some (win (ev gl (2 ^ e) f) (j + 1) (x + p2 j) (y + p2 j))
def JV (R : Q × Nat → Prop) (gl : Gl) (w : GWd) (O : Hp) (d : Addr) : Prop := Bd R 16777215 ∧ ∃ (kv : List (List Key × V)) (ks : List (Q × Nat)), O d = some (.dT kv) ∧ ks.length = kv.length ∧ ks.Nodup ∧
  (∀ p ∈ ks, R p ∧ ∃ i : Nat, w.cs[i]? = some p.1 ∧ valV kv (kI [(i : Int), (p.2 : Int)]) ≠ none) ∧ ∀ l v, valV kv (kI l) = some v → Ent gl w l v
def SameX (d : Addr) (O O' : Hp) : Prop := ∀ b o, b ≠ d → O b = some o → O' b = some o
theorem SameX.refl (d : Addr) (O : Hp) : SameX d O O := fun _ _ _ h => h
theorem SameX.trans {d : Addr} {A B C : Hp} (h : SameX d A B) (h' : SameX d B C) : SameX d A C := fun b o n e => h' b o n (h b o n e)
theorem Same.x {O O' : Hp} (h : Same O O') (d : Addr) : SameX d O O' := fun b o _ e => h b o e
theorem JV.mono {R : Q × Nat → Prop} {gl : Gl} {w w' : GWd} {O O' : Hp} {d : Addr} (h : JV R gl w O d) (x : ExC w w') (e : Same O O') : JV R gl w' O' d := by
  obtain ⟨b, kv, ks, h1, h2, h3, h4, h5⟩ := h
  refine ⟨b, kv, ks, e _ _ h1, h2, h3, fun p hp => ?_, fun l v hv => ?_⟩
  · obtain ⟨r, i, a, c⟩ := h4 p hp
    exact ⟨r, i, x _ _ a, c⟩
  · obtain ⟨i, e, r, j, f, x', y', a, b, c, d, f'⟩ := h5 l v hv
    exact ⟨i, e, r, j, f, x', y', a, b, c, x _ _ d, x _ _ f'⟩
theorem JV.dict {R : Q × Nat → Prop} {gl : Gl} {w : GWd} {O : Hp} {d : Addr} (h : JV R gl w O d) : ∃ kv, O d = some (.dT kv) := by
  obtain ⟨b, kv, ks, h1, _⟩ := h
  exact ⟨kv, h1⟩
/-- what no dict holds stands behind a change of the dict -/
theorem PlacesAt.x {K : PySem.W.Frag} {H H' : Hp} {d p : Addr} {ws : List (Option Nat)} {kv : List (List Key × V)} (hd : H d = some (.dT kv)) (h : PlacesAt K H p ws) (e : SameX d H H') : PlacesAt K H' p ws := by
  obtain ⟨a, l, h1, h2⟩ := h
  exact ⟨a, l, e _ _ (fun z => by rw [z, hd] at h1; cases h1) h1, e _ _ (fun z => by rw [z, hd] at h2; cases h2) h2⟩
theorem ClauseAt.x {K : PySem.W.Frag} {H H' : Hp} {d p : Addr} {c : Cl} {kv : List (List Key × V)} (hd : H d = some (.dT kv)) (h : ClauseAt K H p c) (e : SameX d H H') : ClauseAt K H' p c := by
  obtain ⟨a, l, ps, h1, h2, h3, h4⟩ := h
  exact ⟨a, l, ps, e _ _ (fun z => by rw [z, hd] at h1; cases h1) h1, e _ _ (fun z => by rw [z, hd] at h2; cases h2) h2, h3, fun i q ws a b => (h4 i q ws a b).x hd e⟩
theorem RuleIs.x {K : PySem.W.Frag} {H H' : Hp} {d r : Addr} {cs : List Cl} {kv : List (List Key × V)} (hd : H d = some (.dT kv)) (h : RuleIs K H r cs) (e : SameX d H H') : RuleIs K H' r cs := by
  obtain ⟨a, l, ps, h1, h2, h3, h4⟩ := h
  exact ⟨a, l, ps, e _ _ (fun z => by rw [z, hd] at h1; cases h1) h1, e _ _ (fun z => by rw [z, hd] at h2; cases h2) h2, h3, fun i q c a b => (h4 i q c a b).x hd e⟩
theorem JoAt.x {K : PySem.W.Frag} {O O' : Hp} {jp g r d : Addr} {kv : List (List Key × V)} (hd : O d = some (.dT kv)) (h : JoAt K O jp g r d) (e : SameX d O O') : JoAt K O' jp g r d := by
  obtain ⟨dj, h⟩ := h
  exact ⟨dj, e _ _ (fun z => by rw [z, hd] at h; cases h) h⟩
section
variable {K : PySem.W.Frag} {S : Q → Prop} {R : Q × Nat → Prop} {gl : Gl} {g : Addr} {w : GWd} {s : GS} {O H : Hp} {d : Addr}
/-- what is known answers -/
theorem JV.hit (h : JV R gl w O d) {kv : List (List Key × V)} (hd : O d = some (.dT kv)) {i e j : Nat} {f : Pl} {X Y : Int} (hi : w.cs[i]? = some (win f (j + 2) X Y)) {v : V} (hv : valV kv (kI [(i : Int), (e : Int)]) = some v) :
    ∃ r : Nat, v = .int (r : Nat) ∧ w.cs[r]? = some (win (ev gl (2 ^ e) f) (j + 1) (X + p2 j) (Y + p2 j)) := by
  obtain ⟨b, kv', ks, h1, h2, h3, h4, h5⟩ := h
  rw [hd] at h1
  cases h1
  obtain ⟨i', e', r, j', f', x', y', a, c, he, q, q'⟩ := h5 _ _ hv
  injection a with a1 a2
  injection a2 with a2 _
  obtain rfl : i = i' := Int.ofNat.inj a1
  obtain rfl : e = e' := Int.ofNat.inj a2
  rw [hi] at q
  have q := Option.some.inj q
  have l := congrArg lev q
  rw [lev_win, lev_win] at l
  obtain rfl : j = j' := by omega
  refine ⟨r, c, ?_⟩
  rw [q']
  have le : ((2 ^ e : Nat) : Int) ≤ p2 j := by rw [← p2_nat]; exact p2_mono he
  rw [ev_local le q]
/-- room for one more, and what then is known -/
theorem JV.room (h : JV R gl w O d) {kv : List (List Key × V)} (hd : O d = some (.dT kv)) : kv.length < sizeLine := by
  obtain ⟨b, kv', ks, h1, h2, h3, h4, h5⟩ := h
  rw [hd] at h1
  cases h1
  have z := b ks h3 fun p m => (h4 p m).1
  have s : sizeLine = 16777216 := sizeLine_eq
  omega
theorem JV.put (h : JV R gl w O d) (nd : w.cs.Nodup) {kv : List (List Key × V)} (hd : O d = some (.dT kv)) {i e j r : Nat} {f : Pl} {X Y : Int} (hi : w.cs[i]? = some (win f (j + 2) X Y)) (hR : R (win f (j + 2) X Y, e)) (he : e ≤ j) (hr : w.cs[r]? = some (win (ev gl (2 ^ e) f) (j + 1) (X + p2 j) (Y + p2 j))) :
    JV R gl w (upd O d (.dT (putK kv (kI [(i : Int), (e : Int)]) (.int (r : Nat))))) d := by
  obtain ⟨b, kv', ks, h1, h2, h3, h4, h5⟩ := h
  rw [hd] at h1
  cases h1
  have ent : ∀ l v, valV (putK kv (kI [(i : Int), (e : Int)]) (.int (r : Nat))) (kI l) = some v → Ent gl w l v := fun l v hl => by
    rw [valV_put] at hl
    by_cases c : kI l = kI [(i : Int), (e : Int)]
    · rw [if_pos c] at hl
      exact ⟨i, e, r, j, f, X, Y, kI_inj c, (Option.some.inj hl).symm, he, hi, hr⟩
    · rw [if_neg c] at hl
      exact h5 l v hl
  have old : ∀ p ∈ ks, R p ∧ ∃ i' : Nat, w.cs[i']? = some p.1 ∧ valV (putK kv (kI [(i : Int), (e : Int)]) (.int (r : Nat))) (kI [(i' : Int), (p.2 : Int)]) ≠ none := fun p m => by
    obtain ⟨a, i', c, z⟩ := h4 p m
    refine ⟨a, i', c, ?_⟩
    rw [valV_put]
    split
    · intro z; cases z
    · exact z
  cases hv : valV kv (kI [(i : Int), (e : Int)]) with
  | none =>
    have n : (win f (j + 2) X Y, e) ∉ ks := fun m => by
      obtain ⟨_, i', a, c⟩ := h4 _ m
      rw [nd_ix nd a hi] at c
      exact c hv
    refine ⟨b, _, ks ++ [(win f (j + 2) X Y, e)], upd_same, by rw [putK_new _ hv, List.length_append, List.length_append, h2]; rfl, nd_snoc h3 n, fun p m => ?_, ent⟩
    rcases List.mem_append.mp m with m | m
    · exact old p m
    · rw [List.mem_singleton.mp m]
      refine ⟨hR, i, hi, ?_⟩
      rw [valV_put, if_pos rfl]
      intro z; cases z
  | some v =>
    refine ⟨b, _, ks, upd_same, ?_, h3, old, ent⟩
    unfold putK
    rw [valV_any, hv]
    rw [if_pos (show (some v).isSome = true from rfl), List.length_map, h2]
end
/-- a pattern's windows, of a start and a power -/
structure Fams (S : Q → Prop) (R : Q × Nat → Prop) (P : Pat) (t0 E : Nat) : Prop where
  s0 : ∀ j q, j ≤ 48 → SE P t0 j q → S q
  s1 : ∀ j q, j ≤ 48 → SE P (t0 + 2 ^ E) j q → S q
  r : ∀ j q, j ≤ 48 → SE P t0 j q → R (q, min E (j - 2))
theorem SE.at {P : Pat} {t0 t j : Nat} {x y : Int} (h : t0 ≤ t) (d : p2 (j - 2) ∣ ((t : Int) - t0)) (hx : al j x) (hy : al j y) : SE P t0 j (win (ev P.g t P.f) j x y) := ⟨t, x, y, h, d, hx, hy, rfl⟩
theorem p2_dvd {i j : Nat} (h : i ≤ j) : p2 i ∣ p2 j := ⟨p2 (j - i), by rw [← p2_add]; congr 1; omega⟩
end Jf
/-! JfJ6 -/
set_option autoImplicit true
/-! reckoned. -/
namespace Jf
open PySem PySem.Spec PyProof.Rows L2
structure JS (K : PySem.W.Frag) (S : Q → Prop) (R : Q × Nat → Prop) (gl : Gl) (jp g r d : Addr) (cs : List Cl) (w : GWd) (O H : Hp) : Prop where
  jo : JoAt K O jp g r d
  ru : RuleIs K O r cs
  rg : RuleGl cs gl
  gv : GV K S g w O H
  jv : JV R gl w O d
def GivesJ (K : PySem.W.Frag) (S : Q → Prop) (R : Q × Nat → Prop) (gl : Gl) (jp g r d : Addr) (cs : List Cl) (w : GWd) (O : Hp) (q : Q) (Qk : VK) : Prop := ∀ (i : Nat) (w' : GWd) (O' H' : Hp), JS K S R gl jp g r d cs w' O' H' → ExC w w' → SameX d O O' → w'.cs[i]? = some q → Qk (.int (i : Nat)) H'
/-- how things stand, some steps behind (w, O0) -/
structure JI (K : PySem.W.Frag) (S : Q → Prop) (R : Q × Nat → Prop) (gl : Gl) (g d : Addr) (w : GWd) (O0 : Hp) (w' : GWd) (O' H' : Hp) : Prop where
  gv : GV K S g w' O' H'
  ex : ExC w w'
  sx : SameX d O0 O'
  jv : JV R gl w' O' d
section
variable {K : PySem.W.Frag} {S : Q → Prop} {R : Q × Nat → Prop} {gl : Gl} {jp g r d : Addr} {cs : List Cl} {w w' w2 : GWd} {O0 O' H' O2 H2 : Hp}
theorem JV.off (h : JV R gl w O0 d) {M : Addr} (n : d ≠ M) (o : HO) : JV R gl w (upd O0 M o) d := by
  obtain ⟨b, kv, ks, h1, h2⟩ := h
  exact ⟨b, kv, ks, by rw [upd_ne n]; exact h1, h2⟩
theorem JI.sub (h : JI K S R gl g d w O0 w' O' H') {a : Addr} {o : HO} (e : O' a = some o) : H' a = some o := by
  obtain ⟨s, G⟩ := h.gv
  exact G.sub e
theorem JI.ob (h : JI K S R gl g d w O0 w' O' H') : ∃ (dx : Addr) (s : GS), O' g = some (.ins (CG K) dx (gfs s)) ∧ H' g = some (.ins (CG K) dx (gfs s)) := by
  obtain ⟨s, G⟩ := h.gv
  obtain ⟨dx, e⟩ := G.ob
  exact ⟨dx, _, e, G.sub e⟩
theorem JI.free (h : JI K S R gl g d w O0 w' O' H') {p : Addr} (e : H' p = none) : O' p = none ∧ O0 p = none ∧ d ≠ p := by
  obtain ⟨kv, hd⟩ := h.jv.dict
  have nd : d ≠ p := ne_of_none (h.sub hd) e
  have f : O' p = none := by
    obtain ⟨s, G⟩ := h.gv
    exact G.fresh e
  refine ⟨f, ?_, nd⟩
  cases c : O0 p with
  | none => rfl
  | some o =>
    have := h.sx p o (Ne.symm nd) c
    rw [f] at this
    cases this
theorem JI.new (h : JI K S R gl g d w O0 w' O' H') {p : Addr} (e : H' p = none) (o : HO) : JI K S R gl g d w O0 w' (upd O' p o) (upd H' p o) := by
  obtain ⟨f, f0, nd⟩ := h.free e
  obtain ⟨s, G⟩ := h.gv
  exact ⟨⟨s, G.new e o⟩, h.ex, fun b u n q => by rw [upd_ne (show b ≠ p from ne_of_none q f0)]; exact h.sx b u n q, h.jv.off nd o⟩
theorem JI.mut (h : JI K S R gl g d w O0 w' O' H') {M : Addr} {l : List V} (f0 : O0 M = none) (e : O' M = some (.lst l)) (o : HO) : JI K S R gl g d w O0 w' (upd O' M o) (upd H' M o) := by
  obtain ⟨s, G⟩ := h.gv
  obtain ⟨kv, hd⟩ := h.jv.dict
  obtain ⟨dx, hg⟩ := G.ob
  have nd : d ≠ M := fun z => by rw [z, e] at hd; cases hd
  have ng : M ≠ g := fun z => by rw [← z, e] at hg; cases hg
  exact ⟨⟨s, G.mut e ng (fun xs z => by cases z) o⟩, h.ex, fun b u n q => by rw [upd_ne (show b ≠ M from ne_of_none q f0)]; exact h.sx b u n q, h.jv.off nd o⟩
theorem JI.grove (h : JI K S R gl g d w O0 w' O' H') (G2 : GV K S g w2 O2 H2) (x : ExC w' w2) (m : Same O' O2) : JI K S R gl g d w O0 w2 O2 H2 := ⟨G2, h.ex.trans x, h.sx.trans (Same.x m d), h.jv.mono x m⟩
theorem JI.after (h : JI K S R gl g d w O0 w' O' H') (m : Same H' H2) : ∃ O2, JI K S R gl g d w O0 w' O2 H2 ∧ Same O' O2 ∧ ∀ a o, H' a = none → H2 a = some o → O2 a = some o := by
  obtain ⟨s, G⟩ := h.gv
  obtain ⟨O2, G2, m2, n2⟩ := G.after m
  exact ⟨O2, h.grove ⟨s, G2⟩ (ExC.refl _) m2, m2, n2⟩
theorem JI.tup (h : JI K S R gl g d w O0 w' O' H') {a : Addr} {xs : List V} (e : H' a = some (.tup xs)) : O' a = some (.tup xs) := by
  obtain ⟨s, G⟩ := h.gv
  exact G.tup e
theorem JI.js (h : JI K S R gl g d w O0 w' O' H') (jo : JoAt K O0 jp g r d) (ru : RuleIs K O0 r cs) (rg : RuleGl cs gl) {kv : List (List Key × V)} (hd : O0 d = some (.dT kv)) : JS K S R gl jp g r d cs w' O' H' := ⟨jo.x hd h.sx, ru.x hd h.sx, rg, h.gv, h.jv⟩
theorem JI.of (h : JI K S R gl g d w O0 w' O' H') (j : JS K S R gl jp g r d cs w2 O2 H2) (x : ExC w' w2) (m : SameX d O' O2) : JI K S R gl g d w O0 w2 O2 H2 := ⟨j.gv, h.ex.trans x, h.sx.trans m, j.jv⟩
end
def spReckoned (K : PySem.W.Frag) (S : Q → Prop) (R : Q × Nat → Prop) (n : Nat) : Sp := fun vs H Qk _ => ∃ (jp g r d : Addr) (cs : List Cl) (P : Pat) (t0 E t : Nat) (w : GWd) (O : Hp) (i j : Nat) (X Y : Int), vs = [.ref jp, .int (i : Nat), .int ((min E j : Nat) : Int)] ∧ JS K S R P.g jp g r d cs w O H ∧
  Fams S R P t0 E ∧ t0 ≤ t ∧ p2 j ∣ ((t : Int) - t0) ∧ al (j + 2) X ∧ al (j + 2) Y ∧ w.cs[i]? = some (win (ev P.g t P.f) (j + 2) X Y) ∧ j < n ∧ j ≤ 46 ∧
  GivesJ K S R P.g jp g r d cs w O (win (ev P.g (t + 2 ^ min E j) P.f) (j + 1) (X + p2 j) (Y + p2 j)) Qk
/-- what one of nine becomes, and one of the four -/
def N9 (f : Pl) (k : Nat) (X Y : Int) (n : Nat) : Q := win f (k + 1) (X + ((n % 3 : Nat) : Int) * p2 (k + 1) + p2 k) (Y + ((n / 3 : Nat) : Int) * p2 (k + 1) + p2 k)
def C4 (f : Pl) (k : Nat) (X Y : Int) (n : Nat) : Q := win f (k + 1) (X + ((n % 2 : Nat) : Int) * p2 (k + 1) + p2 (k + 1)) (Y + ((n / 2 : Nat) : Int) * p2 (k + 1) + p2 (k + 1))
theorem N9_four (f : Pl) (k : Nat) (X Y : Int) (n : Nat) : win f (k + 2) (X + ((n % 2 : Nat) : Int) * p2 (k + 1) + p2 k) (Y + ((n / 2 : Nat) : Int) * p2 (k + 1) + p2 k) = .node (N9 f k X Y (b9 n)) (N9 f k X Y (b9 n + 1)) (N9 f k X Y (b9 n + 3)) (N9 f k X Y (b9 n + 4)) := by
  unfold N9 b9
  rw [win_succ]
  rw [show (n / 2 * 3 + n % 2) % 3 = n % 2 by omega, show (n / 2 * 3 + n % 2) / 3 = n / 2 by omega, show (n / 2 * 3 + n % 2 + 1) % 3 = n % 2 + 1 by omega, show (n / 2 * 3 + n % 2 + 1) / 3 = n / 2 by omega,
    show (n / 2 * 3 + n % 2 + 3) % 3 = n % 2 by omega, show (n / 2 * 3 + n % 2 + 3) / 3 = n / 2 + 1 by omega, show (n / 2 * 3 + n % 2 + 4) % 3 = n % 2 + 1 by omega, show (n / 2 * 3 + n % 2 + 4) / 3 = n / 2 + 1 by omega]
  have e : ∀ (Z : Int) (m : Nat), Z + ((m : Nat) : Int) * p2 (k + 1) + p2 k + p2 (k + 1) = Z + ((m + 1 : Nat) : Int) * p2 (k + 1) + p2 k := fun Z m => by
    rw [Int.natCast_add, Int.natCast_one, Int.add_mul, Int.one_mul]; omega
  rw [e, e]
theorem C4_four (f : Pl) (k : Nat) (X Y : Int) : win f (k + 2) (X + p2 (k + 1)) (Y + p2 (k + 1)) = .node (C4 f k X Y 0) (C4 f k X Y 1) (C4 f k X Y 2) (C4 f k X Y 3) := by
  unfold C4
  rw [win_succ]
  refine node_congr ?_ ?_ ?_ ?_ <;> refine win_at ?_ ?_ <;> simp <;> omega
/-- the middle of four -/
theorem N9_meet (f : Pl) (k : Nat) (X Y : Int) (n : Nat) : ∃ a0 a1 a2 a3 b0 b1 b2 b3 c0 c1 c2 c3 d0 d1 d2 d3 : Q, N9 f k X Y (b9 n) = .node a0 a1 a2 a3 ∧ N9 f k X Y (b9 n + 1) = .node b0 b1 b2 b3 ∧ N9 f k X Y (b9 n + 3) = .node c0 c1 c2 c3 ∧ N9 f k X Y (b9 n + 4) = .node d0 d1 d2 d3 ∧
    C4 f k X Y n = .node a3 b2 c1 d0 ∧ lev a3 = k ∧ wf k b2 ∧ wf k c1 ∧ wf k d0 := by
  have h := N9_four f k X Y n
  rw [win_succ] at h
  injection h with h1 h2 h3 h4
  refine ⟨_, _, _, _, _, _, _, _, _, _, _, _, _, _, _, _, h1.symm.trans (win_succ ..), h2.symm.trans (win_succ ..), h3.symm.trans (win_succ ..), h4.symm.trans (win_succ ..), ?_, lev_win _ _ _ _, wf_win _ _ _ _, wf_win _ _ _ _, wf_win _ _ _ _⟩
  unfold C4
  rw [win_succ]
  have ps := p2_succ k
  refine node_congr ?_ ?_ ?_ ?_ <;> refine win_at ?_ ?_ <;> omega
end Jf
/-! JfJ7 -/
set_option autoImplicit true
/-! reckoned: one step. -/
namespace Jf
open PySem PySem.Spec PyProof.Rows L2
section
variable {P : Program} {w : World} {K : PySem.W.Frag} {mg : Str → Option Value} {base : Heap} {S : Q → Prop} {R : Q × Nat → Prop}
theorem sc_Jumps_reckoned : FnScope [("self" : Str), ("square" : Str), ("e" : Str), ("level" : Str), ("made" : Str), ("twice" : Str), ("nine" : Str), ("part" : Str), ("four" : Str), ("a" : Str), ("b" : Str), ("c" : Str), ("d" : Str)] ["self", "square", "e"] (defScope s_Jumps_reckoned) := ⟨rfl, rfl, rfl, by decide +kernel, rfl, by decide +kernel, by decide +kernel⟩
theorem ok_reckoned_step (T : Txt K mg) {n : Nat} (ih : Ok P w K mg base ("Jumps", some "reckoned") ["self", "square", "e"] (n + 5) (spReckoned K S R n)) : Ok P w K mg base ("Jumps", some "reckoned") ["self", "square", "e"] (n + 5 + 1) (spReckoned K S R (n + 1)) := by
  obtain ⟨fd_Grove_level_of, G_Grove_level_of, b_Grove_level_of, k_Grove_level_of⟩ := ok_Grove_level_of (P := P) (w := w) (base := base) (S := S) T
  obtain ⟨fd_Jumps_by_rule, G_Jumps_by_rule, b_Jumps_by_rule, k_Jumps_by_rule⟩ := ok_Jumps_by_rule (P := P) (w := w) (base := base) (S := S) T
  obtain ⟨fd_nine_of, G_nine_of, b_nine_of, k_nine_of⟩ := ok_nine_of (P := P) (w := w) (base := base) (S := S) T
  obtain ⟨fd_fours_of, G_fours_of, b_fours_of, k_fours_of⟩ := ok_fours_of (P := P) (w := w) (base := base) T
  obtain ⟨fd_meeting, G_meeting, b_meeting, k_meeting⟩ := ok_meeting (P := P) (w := w) (base := base) (S := S) T
  obtain ⟨fd_Grove_knit, G_Grove_knit, b_Grove_knit, k_Grove_knit⟩ := ok_Grove_knit (P := P) (w := w) (base := base) (S := S) T
  obtain ⟨fd_Jumps_reckoned, G_Jumps_reckoned, b_Jumps_reckoned, k_Jumps_reckoned⟩ := ih
  refine Ok.of T.d_Jumps_reckoned sc_Jumps_reckoned (fun vs H Q E h => ?_) (fun cdv A outer s H vs Q E hr h => ?_)
  · obtain ⟨jp, g, r, d, cs, P, t0, E, t, w, O, i, j, X, Y, rfl, _⟩ := h
    rfl
  obtain ⟨jp, g, r, d, cs, P, t0, E, t, w, O, i, j, X, Y, rfl, J, F, ht, hdv, aX, aY, hi, hjn, h46, q⟩ := h
  have hu := hu_of hr
  obtain ⟨dj, hj⟩ := id J.jo
  obtain ⟨kv0, hd⟩ := J.jv.dict
  have I0 : JI K S R P.g g d w O w O H := ⟨J.gv, ExC.refl w, SameX.refl d O, J.jv⟩
  obtain ⟨e, he⟩ : ∃ e, e = min E j := ⟨_, rfl⟩
  rw [← he] at q ⊢
  have hej : e ≤ j := by omega
  have h7 : ∀ x y, ev P.g t P.f x y ≤ 7 := ev_le P.g P.le
  have hRR : R (win (ev P.g t P.f) (j + 2) X Y, e) := by
    have := F.r (j + 2) _ (by omega) (SE.at (j := j + 2) ht (by rw [show j + 2 - 2 = j from rfl]; exact hdv) aX aY)
    rw [show j + 2 - 2 = j from rfl, ← he] at this
    exact this
  have jpd : ∀ {w' O' H'}, JI K S R P.g g d w O w' O' H' → O' jp = some (.ins (CJ K) dj (jfs g r d)) := fun I => I.sx _ _ (fun z => by rw [z, hd] at hj; cases hj) hj
  refine ⟨_, (pss_cons (ps_if (pt_cmp (pc_din hu (pe_tup (pa_cons (pv 1) (pa_cons (pv 2) pa_nil))) (pe_fld (pv 0) rfl))) (pss_one (ps_ret (pe_dget hu (pe_fld (pv 0) rfl) (pe_tup (pa_cons (pv 1) (pa_cons (pv 2) pa_nil))) (fun _ _ => rfl)))) pss_nil)
      (pss_cons (ps_set (i := 3) sc_Jumps_reckoned.nd rfl (Or.inl rfl) (pe_meth (pe_fld (pv 0) rfl) T.c_Grove T.m_Grove_level_of G_Grove_level_of (hr.mono (by omega)) b_Grove_level_of .nil pass0 (pa_cons (pv 1) pa_nil)))
      (C8.pss_cut (ps_if (pt_cmpR op_eq (pv 3) pe_int (nomark _)) (pss_one (ps_set (i := 4) sc_Jumps_reckoned.nd rfl (Or.inl rfl) (pe_meth (pv 0) T.c_Jumps T.m_Jumps_by_rule G_Jumps_by_rule (hr.mono (by omega)) b_Jumps_by_rule .nil pass0 (pa_cons (pv 1) pa_nil)))) (pss_cons (ps_set (i := 5) sc_Jumps_reckoned.nd rfl (Or.inl rfl) (pe_callTy call_int1 (by rfl) T.f_int (by decide +kernel) (pa_cons (pe_cmpR op_eq (pv 2) (pe_op op_sub (pv 3) pe_int) (nomark _)) pa_nil)))
      (pss_cons (ps_set (i := 6) sc_Jumps_reckoned.nd rfl (Or.inl rfl) (pe_lst pa_nil))
      (pss_cons (ps_for PassesOwn.never (by rfl) (pi_list (pe_call G_nine_of (hr.mono (by omega)) (by rfl) T.g_nine_of k_nine_of b_nine_of .nil pass0 (pa_cons (pe_fld (pv 0) rfl) (pa_cons (pv 1) pa_nil)))) (pg_name (i := 7) sc_Jumps_reckoned.nd rfl (Or.inl rfl)) (pss_one (ps_expr (pe_bm PySem.F.plainAttrs_list PySem.F.slot_list_append PySem.F.type_list_append mt_append (pv 6) (pa_cons (pe_meth (pv 0) T.c_Jumps T.m_Jumps_reckoned G_Jumps_reckoned (hr.mono (by omega)) b_Jumps_reckoned .nil pass0 (pa_cons (pv 7) (pa_cons (pe_op op_sub (pv 2) (pv 5)) pa_nil))) pa_nil)))))
      (pss_cons (ps_set (i := 8) sc_Jumps_reckoned.nd rfl (Or.inl rfl) (pe_lst pa_nil))
      (pss_cons (ps_for PassesOwn.never (by rfl) (pi_list (pe_call G_fours_of (hr.mono (by omega)) (by rfl) T.g_fours_of k_fours_of b_fours_of .nil pass0 (pa_cons (pv 6) pa_nil))) (pg_tup (by rfl) (pgs_cons (pg_name (i := 9) sc_Jumps_reckoned.nd rfl (Or.inl rfl)) (pgs_cons (pg_name (i := 10) sc_Jumps_reckoned.nd rfl (Or.inl rfl)) (pgs_cons (pg_name (i := 11) sc_Jumps_reckoned.nd rfl (Or.inl rfl)) (pgs_cons (pg_name (i := 12) sc_Jumps_reckoned.nd rfl (Or.inl rfl)) pgs_nil))))) (pss_one (ps_if (pt_cmpR op_eq (pv 5) pe_int (nomark _)) (pss_one (ps_expr (pe_bm PySem.F.plainAttrs_list PySem.F.slot_list_append PySem.F.type_list_append mt_append (pv 8) (pa_cons (pe_meth (pv 0) T.c_Jumps T.m_Jumps_reckoned G_Jumps_reckoned (hr.mono (by omega)) b_Jumps_reckoned .nil pass0 (pa_cons (pe_meth (pe_fld (pv 0) rfl) T.c_Grove T.m_Grove_knit G_Grove_knit (hr.mono (by omega)) b_Grove_knit .nil pass0 (pa_cons (pv 9) (pa_cons (pv 10) (pa_cons (pv 11) (pa_cons (pv 12) pa_nil))))) (pa_cons (pe_op op_sub (pv 2) pe_int) pa_nil))) pa_nil)))) (pss_one (ps_expr (pe_bm PySem.F.plainAttrs_list PySem.F.slot_list_append PySem.F.type_list_append mt_append (pv 8) (pa_cons (pe_call G_meeting (hr.mono (by omega)) (by rfl) T.g_meeting k_meeting b_meeting .nil pass0 (pa_cons (pe_fld (pv 0) rfl) (pa_cons (pv 9) (pa_cons (pv 10) (pa_cons (pv 11) (pa_cons (pv 12) pa_nil)))))) pa_nil)))))))
      (pss_one (ps_set (i := 4) sc_Jumps_reckoned.nd rfl (Or.inl rfl) (pe_meth (pe_fld (pv 0) rfl) T.c_Grove T.m_Grove_knit G_Grove_knit (hr.mono (by omega)) b_Grove_knit .nil pass0 (pa_cons (pe_ix ix_list (pv 8) pe_int (fun _ _ => rfl)) (pa_cons (pe_ix ix_list (pv 8) pe_int (fun _ _ => rfl)) (pa_cons (pe_ix ix_list (pv 8) pe_int (fun _ _ => rfl)) (pa_cons (pe_ix ix_list (pv 8) pe_int (fun _ _ => rfl)) pa_nil)))))))))))))
      (pss_cons (ps_dput hu (pe_fld (pv 0) rfl) (pe_tup (pa_cons (pv 1) (pa_cons (pv 2) pa_nil))) (pv 4) rfl)
      (pss_one (ps_ret (pv 4))))))), ?_⟩
  -- known?
  refine ⟨_, rfl, _, rfl, (by show 2 ≤ sizeLine; decide), fun u hu1 => ?_⟩
  have I1 := I0.new hu1 (.tup [.int (i : Nat), .int (e : Nat)])
  have tu : upd O u (.tup [.int (i : Nat), .int (e : Nat)]) u = some (.tup ((kI [(i : Int), (e : Int)]).map kV)) := by rw [upd_same, kI_V]; rfl
  obtain ⟨kv1, hd1⟩ := I1.jv.dict
  refine ⟨_, rfl, jp, _, dj, _, _, rfl, I1.sub (jpd I1), T.c_Jumps, T.n_Jumps_known, jfs_known g r d, _, _, rfl, DGet.t (k := kI [(i : Int), (e : Int)]) (I1.sub hd1) (I1.sub tu), _, rfl, ?_⟩
  cases hv : valV kv1 (kI [(i : Int), (e : Int)]) with
  | some v =>
    obtain ⟨r', rfl, hr'⟩ := I1.jv.hit hd1 hi hv
    refine iteT ?_
    refine ⟨_, rfl, jp, _, dj, _, _, rfl, I1.sub (jpd I1), T.c_Jumps, T.n_Jumps_known, jfs_known g r d, _, rfl, _, rfl, (by show 2 ≤ sizeLine; decide), fun u2 hu2 => ?_⟩
    have I2 := I1.new hu2 (.tup [.int (i : Nat), .int (e : Nat)])
    have tu2 : upd (upd O u (.tup [.int (i : Nat), .int (e : Nat)])) u2 (.tup [.int (i : Nat), .int (e : Nat)]) u2 = some (.tup ((kI [(i : Int), (e : Int)]).map kV)) := by rw [upd_same, kI_V]; rfl
    have nd2 := (I1.free hu2).2.2
    refine ⟨_, _, rfl, by rw [← hv]; exact DGet.t (k := kI [(i : Int), (e : Int)]) (by rw [upd_ne nd2]; exact I1.sub hd1) (I2.sub tu2), ?_⟩
    refine q r' w _ _ (I2.js J.jo J.ru J.rg hd) (ExC.refl w) I2.sx ?_
    rw [hr', ev_add, Nat.add_comm]
  | none =>
    refine iteF ?_
    obtain ⟨dx1, fs1, hg1, hg1'⟩ := I1.ob
    refine ⟨_, rfl, jp, _, dj, _, _, rfl, I1.sub (jpd I1), T.c_Jumps, T.n_Jumps_grove, jfs_grove g r d, g, dx1, _, rfl, hg1', by rfl, _, rfl, g, w, _, i, _, rfl, I1.gv, hi, ?_⟩
    rw [lev_win]
    refine ⟨fun σ' H' => ∃ (w' : GWd) (O' : Hp) (r' : Nat) (v5 v6 v7 v8 v9 v10 v11 v12 : Option V), σ' = [some (.ref jp), some (.int (i : Nat)), some (.int (e : Nat)), some (.int ((j + 2 : Nat) : Int)), some (.int (r' : Nat)), v5, v6, v7, v8, v9, v10, v11, v12] ∧ JI K S R P.g g d w O w' O' H' ∧ w'.cs[r']? = some (win (ev P.g (t + 2 ^ e) P.f) (j + 1) (X + p2 j) (Y + p2 j)), ?_, ?_⟩
    · refine ⟨_, rfl, rfl, _, rfl, ?_⟩
      by_cases j0 : j = 0
      · -- two: by the rule
        subst j0
        refine iteT ?_
        have e0 : e = 0 := by omega
        subst e0
        have hres : win (ev P.g (t + 2 ^ 0) P.f) (0 + 1) (X + p2 0) (Y + p2 0) = win (ev P.g 1 (ev P.g t P.f)) 1 (X + 1) (Y + 1) := by
          rw [ev_add, Nat.add_comm 1 t]; rfl
        refine ⟨_, rfl, jp, dj, _, rfl, I1.sub (jpd I1), by rfl, _, rfl, ?_⟩
        have s1 : SameX d O (upd O u (.tup [.int (i : Nat), .int ((0 : Nat) : Int)])) := I1.sx
        refine ⟨jp, g, r, d, cs, P.g, w, _, i, ev P.g t P.f, X, Y, rfl, ⟨dj, jpd I1⟩, J.ru.x hd s1, J.rg, h7, I1.gv, hi, ?_, fun r2 w2 O2 H2 G2 x2 m2 hr2 => ?_⟩
        · rw [← hres]
          refine F.s0 1 _ (by omega) (SE.at (j := 1) (by omega) ?_ ?_ ?_) <;> exact ⟨_, (Int.one_mul _).symm⟩
        · rw [← hres] at hr2
          exact ⟨w2, O2, r2, _, _, _, _, _, _, _, _, rfl, I1.grove G2 x2 m2, hr2⟩
      · obtain ⟨k, rfl⟩ : ∃ k, j = k + 1 := ⟨j - 1, by omega⟩
        have z : ¬ V.int ((k + 1 + 2 : Nat) : Int) = V.int 2 := fun e => by injection e with e; omega
        rw [decide_eq_false z]
        refine iteF ?_
        have dX : p2 (k + 1) ∣ X := aX
        have dY : p2 (k + 1) ∣ Y := aY
        have dk : p2 k ∣ p2 (k + 1) := p2_dvd (by omega)
        have dt : p2 k ∣ ((t : Int) - t0) := Int.dvd_trans dk hdv
        -- twice
        refine ⟨_, rfl, _, rfl, _, _, rfl, rfl, rfl, .inr ⟨_, rfl, ?_⟩⟩
        obtain ⟨tw, e1, htw, he1, hsub, hcs⟩ : ∃ (tw : Int) (e1 : Nat), (if decide (V.int (e : Nat) = V.int (((k + 1 + 2 : Nat) : Int) - 2)) = true then (1 : Int) else 0) = tw ∧ e1 = min E k ∧ ((e : Nat) : Int) - tw = ((e1 : Nat) : Int) ∧ ((tw = 1 ∧ k + 1 ≤ E ∧ e = k + 1 ∧ e1 = k) ∨ (tw = 0 ∧ E ≤ k ∧ e = E ∧ e1 = E)) := by
          by_cases c : k + 1 ≤ E
          · have e2 : e = k + 1 := by omega
            refine ⟨1, k, if_pos (decide_eq_true (by rw [e2]; congr 1; omega)), by omega, by omega, .inl ⟨rfl, c, e2, rfl⟩⟩
          · have e2 : e = E := by omega
            refine ⟨0, E, if_neg fun z => ?_, by omega, by omega, .inr ⟨rfl, by omega, e2, rfl⟩⟩
            have z := of_decide_eq_true z
            injection z with z
            omega
        rw [htw]
        -- nine
        refine ⟨Nat.zero_le _, fun M hM => ?_⟩
        have I2 := I1.new hM (.lst [])
        obtain ⟨fO, f0, nd0⟩ := I1.free hM
        refine ⟨_, rfl, jp, _, dj, _, _, rfl, I2.sub (jpd I2), T.c_Jumps, T.n_Jumps_grove, jfs_grove g r d, _, rfl, g, w, _, i, ev P.g t P.f, k, X, Y, rfl, I2.gv, hi, by omega, fun m hm => ?_, fun p L w3 O3 H3 G3 x3 m3 np3 hp3 e9 hL => ?_⟩
        · refine F.s0 (k + 2) _ (by omega) (SE.at (j := k + 2) ht dt ?_ ?_)
          · exact Int.dvd_add (Int.dvd_trans dk dX) (Int.dvd_trans dk (Int.dvd_mul_left _ _))
          · exact Int.dvd_add (Int.dvd_trans dk dY) (Int.dvd_trans dk (Int.dvd_mul_left _ _))
        have I3 := I2.grove G3 x3 m3
        have hM3 : O3 M = some (.lst (([] : List Nat).map fun j => V.int (j : Nat))) := m3 _ _ upd_same
        have npM : p ≠ M := fun z => by rw [z, upd_same] at np3; cases np3
        have npd : p ≠ d := fun z => by
          obtain ⟨kv2, hd2⟩ := I2.jv.dict
          rw [z, hd2] at np3; cases np3
        have f0p : O p = none := by
          cases c : O p with
          | none => rfl
          | some o =>
            have := I2.sx p o npd c
            rw [np3] at this; cases this
        refine ⟨p, rfl, ⟨_, SqL.of (I3.sub hp3)⟩, for_it (walk_list (K := K) (a := p) (xs := L.map fun j => V.int (j : Nat))) (fun n σ' H' => ∃ (w' : GWd) (O' : Hp) (B : List Nat) (v : Option V), σ' = [some (.ref jp), some (.int (i : Nat)), some (.int (e : Nat)), some (.int ((k + 1 + 2 : Nat) : Int)), none, some (.int tw), some (.ref M), v, none, none, none, none, none] ∧ JI K S R P.g g d w O w' O' H' ∧
            O' M = some (.lst (B.map fun j => V.int (j : Nat))) ∧ O' p = some (.lst (L.map fun j => V.int (j : Nat))) ∧ IdsAt w' L (F9 (ev P.g t P.f) k X Y) ∧ B.length = n ∧ IdsAt w' B (N9 (ev P.g (t + 2 ^ e1) P.f) k X Y))
          ⟨w3, O3, [], none, rfl, I3, hM3, hp3, hL, rfl, fun n j h => by cases h⟩ (fun n σ' H' _ ⟨w', O', B, v, _, I', _, hp', _⟩ => SqL.of (I'.sub hp')) ?_ ?_⟩
        · rintro m x σ' H' H'' hm ⟨w', O', B, v, rfl, I', hB, hp', hL', eB, hBi⟩ ⟨rfl, hx⟩
          rw [List.length_map] at hm
          rw [List.getElem?_map, List.getElem?_eq_getElem hm] at hx
          obtain rfl : V.int (L[m] : Nat) = x := Option.some.inj hx
          have hc := hL' m _ (List.getElem?_eq_getElem hm)
          have hm9 : m < 9 := by omega
          refine ⟨_, rfl, .inl ⟨rfl, _, SqL.of (I'.sub hB)⟩, _, rfl, jp, dj, _, rfl, I'.sub (jpd I'), by rfl, _, rfl, _, rfl, _, rfl, _, _, rfl, rfl, ?_⟩
          refine ⟨jp, g, r, d, cs, P, t0, E, t, w', O', L[m], k, _, _, by dsimp only; rw [hsub, he1]; rfl, I'.js J.jo J.ru J.rg hd, F, ht, dt, ?_, ?_, hc, by omega, by omega, fun r2 w2 O2 H2 J2 x2 m2 hr2 => ?_⟩
          · exact Int.dvd_add (Int.dvd_trans dk dX) (Int.dvd_trans dk (Int.dvd_mul_left _ _))
          · exact Int.dvd_add (Int.dvd_trans dk dY) (Int.dvd_trans dk (Int.dvd_mul_left _ _))
          have ndM : M ≠ d := fun z => by
            obtain ⟨kv2, hd2⟩ := I'.jv.dict
            rw [z, hd2] at hB; cases hB
          have hM2 := m2 _ _ ndM hB
          have I4 := I'.of J2 x2 m2
          refine ⟨M, _, _, rfl, rfl, I4.sub hM2, by rw [List.length_map, eB]; exact small1000 (by omega), ?_⟩
          have I5 := I4.mut f0 hM2 (.lst ((B ++ [r2]).map fun j => V.int (j : Nat)))
          rw [List.map_append] at I5
          refine ⟨w2, _, B ++ [r2], _, rfl, I5, by rw [upd_same, List.map_append], by rw [upd_ne npM]; exact m2 _ _ npd hp', hL'.mono x2, by rw [List.length_append, eB]; rfl, (hBi.mono x2).snoc ?_⟩
          rw [hr2, eB, ← he1]
          rfl
        · rintro σ' H' ⟨w4, O4, B, v, rfl, I4, hB, _, _, eB, hBi⟩
          rw [List.length_map, e9] at eB
          -- four
          refine ⟨Nat.zero_le _, fun D hD => ?_⟩
          have I5 := I4.new hD (.lst [])
          obtain ⟨fO5, f05, nd5⟩ := I4.free hD
          have nMD : M ≠ D := ne_of_none (I4.sub hB) hD
          have hB5 : upd O4 D (.lst []) M = some (.lst (B.map fun j => V.int (j : Nat))) := by rw [upd_ne nMD]; exact hB
          refine ⟨_, rfl, M, B, rfl, I5.sub hB5, eB, fun p4 ts H6 e6 np4 hp4 l4 hts => ?_⟩
          obtain ⟨O6, I6, m6, n6⟩ := I5.after e6
          have hp4' := n6 _ _ np4 hp4
          have hD6 : O6 D = some (.lst (([] : List Nat).map fun j => V.int (j : Nat))) := m6 _ _ upd_same
          have npD : p4 ≠ D := fun z => by rw [z, upd_same] at np4; cases np4
          have npd4 : p4 ≠ d := fun z => by
            obtain ⟨kv2, hd2⟩ := I6.jv.dict
            rw [z, hd2] at hp4'; cases hp4'
          have f05' : O D = none := f05
          refine ⟨p4, rfl, ⟨_, SqL.of hp4⟩, for_it (walk_list (K := K) (a := p4) (xs := ts.map V.ref)) (fun n σ' H' => ∃ (w' : GWd) (O' : Hp) (C : List Nat) (v7 v9 v10 v11 v12 : Option V), σ' = [some (.ref jp), some (.int (i : Nat)), some (.int (e : Nat)), some (.int ((k + 1 + 2 : Nat) : Int)), none, some (.int tw), some (.ref M), v7, some (.ref D), v9, v10, v11, v12] ∧ JI K S R P.g g d w O w' O' H' ∧ ExC w4 w' ∧
              O' D = some (.lst (C.map fun j => V.int (j : Nat))) ∧ (∀ b o, b ≠ d → b ≠ D → O6 b = some o → O' b = some o) ∧ C.length = n ∧ IdsAt w' C (C4 (ev P.g (t + 2 ^ e) P.f) k X Y))
            ⟨w4, O6, [], v, none, none, none, none, rfl, I6, ExC.refl _, hD6, fun _ _ _ _ h => h, rfl, fun n j h => by cases h⟩ (fun n σ' H' _ ⟨w', O', C, _, _, _, _, _, _, I', _, _, kp, _⟩ => SqL.of (I'.sub (kp _ _ npd4 npD hp4'))) ?_ ?_⟩
          · rintro m x σ' H' H'' hm ⟨w', O', C, v7, v9, v10, v11, v12, rfl, I', x', hC, kp, eC, hCi⟩ ⟨rfl, hx⟩
            rw [List.length_map] at hm
            rw [List.getElem?_map, List.getElem?_eq_getElem hm] at hx
            obtain rfl : V.ref ts[m] = x := Option.some.inj hx
            have hm4 : m < 4 := by omega
            obtain ⟨i0, i1, i2, i3, ht6, b0, b1, b2, b3⟩ := hts m ts[m] (List.getElem?_eq_getElem hm)
            have ht6' := I6.tup ht6
            have ntd : ts[m] ≠ d := fun z => by
              obtain ⟨kv2, hd2⟩ := I6.jv.dict
              rw [z, hd2] at ht6'; cases ht6'
            have ntD : ts[m] ≠ D := fun z => by rw [z, hD6] at ht6'; cases ht6'
            have tp := I'.sub (kp _ _ ntd ntD ht6')
            have c0 := x' _ _ (hBi _ _ b0)
            have c1 := x' _ _ (hBi _ _ b1)
            have c2 := x' _ _ (hBi _ _ b2)
            have c3 := x' _ _ (hBi _ _ b3)
            have hCd : D ≠ d := fun z => by
              obtain ⟨kv2, hd2⟩ := I'.jv.dict
              rw [z, hd2] at hC; cases hC
            -- one of four is there
            have fin : ∀ (r2 : Nat) (w2 : GWd) (O2 H2 : Hp), JI K S R P.g g d w O w2 O2 H2 → ExC w' w2 → SameX d O' O2 → w2.cs[r2]? = some (C4 (ev P.g (t + 2 ^ e) P.f) k X Y m) → H2 D = some (.lst (C.map fun j => V.int (j : Nat))) ∧ (C.map fun j => V.int (j : Nat)).length < sizeLine ∧
                ∃ (w' : GWd) (O' : Hp) (C' : List Nat), (JI K S R P.g g d w O w' O' (upd H2 D (.lst (C.map (fun j => V.int (j : Nat)) ++ [.int (r2 : Nat)])))) ∧ ExC w4 w' ∧ O' D = some (.lst (C'.map fun j => V.int (j : Nat))) ∧ (∀ b o, b ≠ d → b ≠ D → O6 b = some o → O' b = some o) ∧ C'.length = m + 1 ∧ IdsAt w' C' (C4 (ev P.g (t + 2 ^ e) P.f) k X Y) := fun r2 w2 O2 H2 I2 x2 m2 hr2 => by
              have hD2 := m2 _ _ hCd hC
              have I8 := I2.mut f05' hD2 (.lst ((C ++ [r2]).map fun j => V.int (j : Nat)))
              rw [List.map_append] at I8
              exact ⟨I2.sub hD2, by rw [List.length_map, eC]; exact small1000 (by omega), w2, _, C ++ [r2], I8, x'.trans x2, by rw [upd_same, List.map_append], fun b o n1 n2 h => by rw [upd_ne n2]; exact m2 _ _ n1 (kp b o n1 n2 h), by rw [List.length_append, eC]; rfl, (hCi.mono x2).snoc (by rw [eC]; exact hr2)⟩
            have a1 : p2 k ∣ X + ((m % 2 : Nat) : Int) * p2 (k + 1) + p2 k := Int.dvd_add (Int.dvd_add (Int.dvd_trans dk dX) (Int.dvd_trans dk (Int.dvd_mul_left _ _))) (Int.dvd_refl _)
            have a2 : p2 k ∣ Y + ((m / 2 : Nat) : Int) * p2 (k + 1) + p2 k := Int.dvd_add (Int.dvd_add (Int.dvd_trans dk dY) (Int.dvd_trans dk (Int.dvd_mul_left _ _))) (Int.dvd_refl _)
            refine ⟨_, _, rfl, SqT.of tp, rfl, _, _, rfl, _, _, rfl, _, _, rfl, _, _, rfl, rfl, ?_⟩
            refine ⟨_, rfl, rfl, _, rfl, ?_⟩
            rcases hcs with ⟨rfl, cE, ce, ce1⟩ | ⟨rfl, cE, ce, ce1⟩
            · refine iteT ?_
              obtain ⟨dx', s', hg', hg''⟩ := I'.ob
              have dt2 : p2 k ∣ (((t + 2 ^ k : Nat) : Int) - t0) := by
                have e2 : ((t + 2 ^ k : Nat) : Int) - t0 = (((t : Int) - t0) + p2 k) := by rw [p2_nat, Int.natCast_add]; omega
                rw [e2]
                exact Int.dvd_add dt (Int.dvd_refl _)
              have hS4 : S (.node (N9 (ev P.g (t + 2 ^ e1) P.f) k X Y (b9 m)) (N9 (ev P.g (t + 2 ^ e1) P.f) k X Y (b9 m + 1)) (N9 (ev P.g (t + 2 ^ e1) P.f) k X Y (b9 m + 3)) (N9 (ev P.g (t + 2 ^ e1) P.f) k X Y (b9 m + 4))) := by
                rw [← N9_four, ce1]
                exact F.s0 (k + 2) _ (by omega) (SE.at (j := k + 2) (Nat.le_trans ht (Nat.le_add_right _ _)) dt2 a1 a2)
              have wn : ∀ a b, wf (lev (N9 (ev P.g (t + 2 ^ e1) P.f) k X Y a)) (N9 (ev P.g (t + 2 ^ e1) P.f) k X Y b) := fun a b => by unfold N9; rw [lev_win]; exact wf_win _ _ _ _
              refine ⟨_, rfl, .inl ⟨rfl, _, SqL.of (I'.sub hC)⟩, _, rfl, jp, dj, _, rfl, I'.sub (jpd I'), by rfl, _, rfl, jp, _, dj, _, _, rfl, I'.sub (jpd I'), T.c_Jumps, T.n_Jumps_grove, jfs_grove g r d, g, dx', _, rfl, hg'', by rfl, _, rfl, _, rfl, _, rfl, _, rfl, ?_⟩
              refine ⟨g, w', O', i0, i1, i2, i3, _, _, _, _, rfl, I'.gv, c0, c1, c2, c3, wn _ _, wn _ _, wn _ _, by unfold N9; rw [lev_win]; omega, hS4, fun r7 w7 O7 H7 G7 _ x7 m7 hr7 => ?_⟩
              rw [← N9_four] at hr7
              have I7 := I'.grove G7 x7 m7
              refine ⟨_, rfl, _, _, rfl, rfl, ?_⟩
              refine ⟨jp, g, r, d, cs, P, t0, E, t + 2 ^ e1, w7, O7, r7, k, _, _, ?_, I7.js J.jo J.ru J.rg hd, F, Nat.le_trans ht (Nat.le_add_right _ _), by rw [ce1]; exact dt2, a1, a2, hr7, by omega, by omega, fun r2 w2 O2 H2 J2 x2 m2 hr2 => ?_⟩
              · dsimp only
                rw [ce, show ((k + 1 : Nat) : Int) - 1 = ((min E k : Nat) : Int) by omega]
                rfl
              have hr3 : w2.cs[r2]? = some (C4 (ev P.g (t + 2 ^ e) P.f) k X Y m) := by
                rw [hr2, ← he1, ce1, ce]
                have et : t + 2 ^ k + 2 ^ k = t + 2 ^ (k + 1) := by rw [Nat.pow_succ]; omega
                rw [et]
                have ps := p2_succ k
                exact congrArg some (win_at (by omega) (by omega))
              obtain ⟨f1, f2, w8, O8, C8, f3⟩ := fin r2 w2 O2 H2 (I7.of J2 x2 m2) (x7.trans x2) ((Same.x m7 d).trans m2) hr3
              exact ⟨D, _, _, rfl, rfl, f1, f2, w8, O8, C8, _, _, _, _, _, rfl, f3⟩
            · refine iteF ?_
              obtain ⟨a0, a1', a2', a3, b0', b1', b2', b3', c0', c1', c2', c3', d0, d1, d2, d3, q0, q1, q2, q3, q4, l3, w2', w1', w0'⟩ := N9_meet (ev P.g (t + 2 ^ e1) P.f) k X Y m
              rw [q0] at c0
              rw [q1] at c1
              rw [q2] at c2
              rw [q3] at c3
              have hS4 : S (.node a3 b2' c1' d0) := by
                rw [← q4, ce1]
                have ps := p2_succ k
                have dj2 : p2 (k + 1 - 2) ∣ p2 (k + 1) := p2_dvd (by omega)
                refine F.s1 (k + 1) _ (by omega) (SE.at (j := k + 1) (by omega) ?_ ?_ ?_)
                · have e2 : (((t + 2 ^ E : Nat) : Int) - ((t0 + 2 ^ E : Nat) : Int)) = (t : Int) - t0 := by omega
                  rw [e2]
                  exact Int.dvd_trans dj2 hdv
                · exact Int.dvd_add (Int.dvd_add (Int.dvd_trans dj2 dX) (Int.dvd_trans dj2 (Int.dvd_mul_left _ _))) dj2
                · exact Int.dvd_add (Int.dvd_add (Int.dvd_trans dj2 dY) (Int.dvd_trans dj2 (Int.dvd_mul_left _ _))) dj2
              refine ⟨_, rfl, .inl ⟨rfl, _, SqL.of (I'.sub hC)⟩, _, rfl, jp, _, dj, _, _, rfl, I'.sub (jpd I'), T.c_Jumps, T.n_Jumps_grove, jfs_grove g r d, _, rfl, _, rfl, _, rfl, _, rfl, ?_⟩
              refine ⟨g, w', O', i0, i1, i2, i3, a0, a1', a2', a3, b0', b1', b2', b3', c0', c1', c2', c3', d0, d1, d2, d3, rfl, I'.gv, c0, c1, c2, c3, by rw [l3]; exact w2', by rw [l3]; exact w1', by rw [l3]; exact w0', by omega, hS4, fun r2 w2 O2 H2 G2 x2 m2 hr2 => ?_⟩
              rw [← q4, ce1, ← ce] at hr2
              obtain ⟨f1, f2, w8, O8, C8, f3⟩ := fin r2 w2 O2 H2 (I'.grove G2 x2 m2) x2 (Same.x m2 d) hr2
              exact ⟨D, _, _, rfl, rfl, f1, f2, w8, O8, C8, _, _, _, _, _, rfl, f3⟩
          · rintro σ' H' ⟨w', O', C, v7, v9, v10, v11, v12, rfl, I', x', hC, kp, eC, hCi⟩
            rw [List.length_map, l4] at eC
            obtain ⟨dx', s', hg', hg''⟩ := I'.ob
            have sel : ∀ n : Nat, n < 4 → ∃ j : Nat, atI (C.map fun j => V.int (j : Nat)) (n : Int) = some (.int (j : Nat)) ∧ w'.cs[j]? = some (C4 (ev P.g (t + 2 ^ e) P.f) k X Y n) := fun n hn => by
              have hrL : n < C.length := by omega
              exact ⟨C[n], atI_nat (by rw [List.getElem?_map, List.getElem?_eq_getElem hrL]; rfl), hCi n _ (List.getElem?_eq_getElem hrL)⟩
            obtain ⟨i0, a0, c0⟩ := sel 0 (by omega)
            obtain ⟨i1, a1, c1⟩ := sel 1 (by omega)
            obtain ⟨i2, a2, c2⟩ := sel 2 (by omega)
            obtain ⟨i3, a3, c3⟩ := sel 3 (by omega)
            have ml := SqL.of (K := K) (I'.sub hC)
            have wn : ∀ a b, wf (lev (C4 (ev P.g (t + 2 ^ e) P.f) k X Y a)) (C4 (ev P.g (t + 2 ^ e) P.f) k X Y b) := fun a b => by unfold C4; rw [lev_win]; exact wf_win _ _ _ _
            have hS5 : S (.node (C4 (ev P.g (t + 2 ^ e) P.f) k X Y 0) (C4 (ev P.g (t + 2 ^ e) P.f) k X Y 1) (C4 (ev P.g (t + 2 ^ e) P.f) k X Y 2) (C4 (ev P.g (t + 2 ^ e) P.f) k X Y 3)) := by
              rw [← C4_four]
              rcases hcs with ⟨_, cE, ce, ce1⟩ | ⟨_, cE, ce, ce1⟩
              · have pe : p2 k ∣ ((2 ^ e : Nat) : Int) := by rw [← p2_nat, ce]; exact dk
                refine F.s0 (k + 2) _ (by omega) (SE.at (j := k + 2) (Nat.le_trans ht (Nat.le_add_right _ _)) ?_ ?_ ?_)
                · have e2 : ((t + 2 ^ e : Nat) : Int) - t0 = (((t : Int) - t0) + ((2 ^ e : Nat) : Int)) := by rw [Int.natCast_add]; omega
                  rw [e2]
                  exact Int.dvd_add dt pe
                · exact Int.dvd_add (Int.dvd_trans dk dX) dk
                · exact Int.dvd_add (Int.dvd_trans dk dY) dk
              · rw [ce]
                refine F.s1 (k + 2) _ (by omega) (SE.at (j := k + 2) (by omega) ?_ ?_ ?_)
                · have e2 : (((t + 2 ^ E : Nat) : Int) - ((t0 + 2 ^ E : Nat) : Int)) = (t : Int) - t0 := by omega
                  rw [e2]
                  exact dt
                · exact Int.dvd_add (Int.dvd_trans dk dX) dk
                · exact Int.dvd_add (Int.dvd_trans dk dY) dk
            refine ⟨_, rfl, jp, _, dj, _, _, rfl, I'.sub (jpd I'), T.c_Jumps, T.n_Jumps_grove, jfs_grove g r d, g, dx', _, rfl, hg'', by rfl, _, rfl, D, _, _, _, rfl, rfl, ml, a0, _, rfl, D, _, _, _, rfl, rfl, ml, a1, _, rfl, D, _, _, _, rfl, rfl, ml, a2, _, rfl, D, _, _, _, rfl, rfl, ml, a3, ?_⟩
            refine ⟨g, w', O', i0, i1, i2, i3, _, _, _, _, rfl, I'.gv, c0, c1, c2, c3, wn _ _, wn _ _, wn _ _, by unfold C4; rw [lev_win]; omega, hS5, fun r2 w2 O2 H2 G2 _ x2 m2 hr2 => ?_⟩
            rw [← C4_four] at hr2
            exact ⟨w2, O2, r2, _, _, _, _, _, _, _, _, rfl, I'.grove G2 x2 m2, hr2⟩
    · rintro σ2 H2 ⟨w2, O2, r2, v5, v6, v7, v8, v9, v10, v11, v12, rfl, I2, hr2⟩
      refine ⟨_, rfl, _, rfl, jp, _, dj, _, _, rfl, I2.sub (jpd I2), T.c_Jumps, T.n_Jumps_known, jfs_known g r d, _, rfl, _, rfl, (by show 2 ≤ sizeLine; decide), fun u2 hu2 => ?_⟩
      have I3 := I2.new hu2 (.tup [.int (i : Nat), .int (e : Nat)])
      have tu2 : upd O2 u2 (.tup [.int (i : Nat), .int (e : Nat)]) u2 = some (.tup ((kI [(i : Int), (e : Int)]).map kV)) := by rw [upd_same, kI_V]; rfl
      obtain ⟨kv3, hd3⟩ := I3.jv.dict
      refine ⟨_, _, rfl, DPut.t (k := kI [(i : Int), (e : Int)]) (I3.sub hd3) (I3.sub tu2) (I3.jv.room hd3), ?_⟩
      refine ⟨_, rfl, ?_⟩
      have gs : GV K S g w2 (upd (upd O2 u2 (.tup [.int (i : Nat), .int (e : Nat)])) d (.dT (putK kv3 (kI [(i : Int), (e : Int)]) (.int (r2 : Nat))))) (upd (upd H2 u2 (.tup [.int (i : Nat), .int (e : Nat)])) d (.dT (putK kv3 (kI [(i : Int), (e : Int)]) (.int (r2 : Nat))))) := by
        obtain ⟨s3, G3⟩ := I3.gv
        obtain ⟨dx3, hg3⟩ := G3.ob
        exact ⟨s3, G3.mut hd3 (fun z => by rw [z, hg3] at hd3; cases hd3) (fun xs z => by cases z) _⟩
      have nd : w2.cs.Nodup := by
        obtain ⟨s3, G3⟩ := I3.gv
        exact G3.cnd
      have sx : SameX d O (upd (upd O2 u2 (.tup [.int (i : Nat), .int (e : Nat)])) d (.dT (putK kv3 (kI [(i : Int), (e : Int)]) (.int (r2 : Nat))))) := fun b o n h => by rw [upd_ne n]; exact I3.sx b o n h
      have jv := I3.jv.put nd hd3 (I3.ex _ _ hi) hRR hej (by rw [ev_add, Nat.add_comm]; exact hr2)
      exact q r2 w2 _ _ ⟨J.jo.x hd sx, J.ru.x hd sx, J.rg, gs, jv⟩ I3.ex sx hr2
end
end Jf
/-! JfJ8 -/
set_option autoImplicit true
/-! reckoned, check, after, a new Jumps. -/
namespace Jf
open PySem PySem.Spec PyProof.Rows L2
section
variable {P : Program} {w : World} {K : PySem.W.Frag} {mg : Str → Option Value} {base : Heap} {S : Q → Prop} {R : Q × Nat → Prop}
theorem ok_reckoned (T : Txt K mg) : ∀ n, Ok P w K mg base ("Jumps", some "reckoned") ["self", "square", "e"] (n + 5) (spReckoned K S R n)
  | 0 => by
    obtain ⟨fd, F, b⟩ := T.d_Jumps_reckoned
    have no : ∀ vs H Q E, ¬ spReckoned K S R 0 vs H Q E := fun vs H Q E h => by
      obtain ⟨jp, g, r, d, cs, P, t0, E, t, w, O, i, j, X, Y, _, _, _, _, _, _, _, _, hjn, _⟩ := h
      omega
    exact ⟨fd, ⟨fun vs H Q E h => absurd h (no vs H Q E), fun A outer s H args us vs Q E _ _ _ _ h => absurd h (no vs H Q E)⟩, b, F.kp⟩
  | n + 1 => ok_reckoned_step T (ok_reckoned T n)
def spCheck (K : PySem.W.Frag) (S : Q → Prop) (R : Q × Nat → Prop) : Sp := fun vs H Qk _ => ∃ (jp g r d : Addr) (w : GWd) (O : Hp) (i e : Nat) (q : Q), vs = [.ref jp, .int (i : Nat), .int (e : Nat)] ∧ JoAt K O jp g r d ∧ GV K S g w O H ∧ w.cs[i]? = some q ∧ 2 ≤ lev q ∧ e ≤ lev q - 2 ∧ Qk .non H
theorem sc_Jumps_check : FnScope [("self" : Str), ("square" : Str), ("e" : Str), ("level" : Str)] ["self", "square", "e"] (defScope s_Jumps_check) := ⟨rfl, rfl, rfl, by decide +kernel, rfl, by decide +kernel, by decide +kernel⟩
theorem ok_Jumps_check (T : Txt K mg) : Ok P w K mg base ("Jumps", some "check") ["self", "square", "e"] 4 (spCheck K S R) := by
  obtain ⟨fd_Grove_level_of, G_Grove_level_of, b_Grove_level_of, k_Grove_level_of⟩ := ok_Grove_level_of (P := P) (w := w) (base := base) (S := S) T
  obtain ⟨fd_is_whole, G_is_whole, b_is_whole, k_is_whole⟩ := ok_is_whole (P := P) (w := w) (base := base) T
  refine Ok.of T.d_Jumps_check sc_Jumps_check (fun vs H Q E h => ?_) (fun cdv A outer s H vs Q E hr h => ?_)
  · obtain ⟨jp, g, r, d, w, O, i, e, q, rfl, _⟩ := h
    rfl
  obtain ⟨jp, g, r, d, w, O, i, e, q, rfl, ⟨dj, hj⟩, ⟨s, G⟩, hi, h2, he, k⟩ := h
  obtain ⟨dx, hg⟩ := G.ob
  refine ⟨_, (pss_cons (ps_set (i := 3) sc_Jumps_check.nd rfl (Or.inl rfl) (pe_meth (pe_fld (pv 0) rfl) T.c_Grove T.m_Grove_level_of G_Grove_level_of (hr.mono (by omega)) b_Grove_level_of .nil pass0 (pa_cons (pv 1) pa_nil)))
      (pss_cons (ps_if (pt_cmpR op_lt (pv 3) pe_int (nomark _)) (pss_one ps_never) pss_nil)
      (pss_one (ps_if (PW.pt (pw_or (pt_not (pt_val (pe_call G_is_whole (hr.mono (by omega)) (by rfl) T.g_is_whole k_is_whole b_is_whole .nil pass0 (pa_cons (pv 2) pa_nil)))) (pw_or1 (pt_not (pt_chain op_le op_le pe_int (pv 2) (pe_op op_sub (pv 3) pe_int)))))) (pss_one ps_never) pss_nil)))), ?_⟩
  refine ⟨_, rfl, jp, _, dj, _, _, rfl, G.sub hj, T.c_Jumps, T.n_Jumps_grove, jfs_grove g r d, g, dx, _, rfl, G.sub hg, by rfl, _, rfl, g, w, O, i, q, rfl, ⟨s, G⟩, hi, ?_⟩
  refine ⟨_, rfl, _, _, rfl, rfl, _, rfl, ?_⟩
  rw [decide_eq_false (show ¬ ((lev q : Nat) : Int) < 2 by omega)]
  refine iteF ?_
  refine ⟨_, rfl, _, rfl, _, rfl, iteF ?_⟩
  refine (val_chain val_c (val_var rfl) (val_i0 (val_var rfl) val_c)) _ ?_
  refine ⟨_, rfl, ?_⟩
  rw [decide_eq_true (show (0 : Int) ≤ ((e : Nat) : Int) by omega), decide_eq_true (show ((e : Nat) : Int) ≤ ((lev q : Nat) : Int) - 2 by omega)]
  exact iteF k
/-- after: of a square of level j + 2 and e, within a start and the power e -/
def spAfter (K : PySem.W.Frag) (S : Q → Prop) (R : Q × Nat → Prop) : Sp := fun vs H Qk _ => ∃ (jp g r d : Addr) (cs : List Cl) (P : Pat) (e t : Nat) (w : GWd) (O : Hp) (i j : Nat) (X Y : Int), vs = [.ref jp, .int (i : Nat), .int (e : Nat)] ∧ JS K S R P.g jp g r d cs w O H ∧
  Fams S R P t e ∧ al (j + 2) X ∧ al (j + 2) Y ∧ w.cs[i]? = some (win (ev P.g t P.f) (j + 2) X Y) ∧ j ≤ 46 ∧ e ≤ j ∧
  GivesJ K S R P.g jp g r d cs w O (win (ev P.g (t + 2 ^ e) P.f) (j + 1) (X + p2 j) (Y + p2 j)) Qk
theorem sc_Jumps_after : FnScope [("self" : Str), ("square" : Str), ("e" : Str)] ["self", "square", "e"] (defScope s_Jumps_after) := ⟨rfl, rfl, rfl, by decide +kernel, rfl, by decide +kernel, by decide +kernel⟩
theorem ok_Jumps_after (T : Txt K mg) : Ok P w K mg base ("Jumps", some "after") ["self", "square", "e"] 53 (spAfter K S R) := by
  obtain ⟨fd_Jumps_check, G_Jumps_check, b_Jumps_check, k_Jumps_check⟩ := ok_Jumps_check (P := P) (w := w) (base := base) (S := S) (R := R) T
  obtain ⟨fd_Jumps_reckoned, G_Jumps_reckoned, b_Jumps_reckoned, k_Jumps_reckoned⟩ := ok_reckoned (P := P) (w := w) (base := base) (S := S) (R := R) T 47
  refine Ok.of T.d_Jumps_after sc_Jumps_after (fun vs H Q E h => ?_) (fun cdv A outer s H vs Q E hr h => ?_)
  · obtain ⟨jp, g, r, d, cs, P, e, t, w, O, i, j, X, Y, rfl, _⟩ := h
    rfl
  obtain ⟨jp, g, r, d, cs, P, e, t, w, O, i, j, X, Y, rfl, J, F, aX, aY, hi, h46, he, q⟩ := h
  obtain ⟨dj, hj⟩ := id J.jo
  obtain ⟨s, G⟩ := id J.gv
  refine ⟨_, (pss_cons (ps_expr (pe_meth (pv 0) T.c_Jumps T.m_Jumps_check G_Jumps_check (hr.mono (by omega)) b_Jumps_check .nil pass0 (pa_cons (pv 1) (pa_cons (pv 2) pa_nil))))
      (pss_one (ps_ret (pe_meth (pv 0) T.c_Jumps T.m_Jumps_reckoned G_Jumps_reckoned (hr.mono (by omega)) b_Jumps_reckoned .nil pass0 (pa_cons (pv 1) (pa_cons (pv 2) pa_nil)))))), ?_⟩
  refine ⟨_, rfl, jp, dj, _, rfl, G.sub hj, by rfl, _, rfl, _, rfl, jp, g, r, d, w, O, i, e, _, rfl, J.jo, ⟨s, G⟩, hi, by rw [lev_win]; omega, by rw [lev_win]; omega, ?_⟩
  have me : min e j = e := by omega
  refine ⟨_, rfl, jp, dj, _, rfl, G.sub hj, by rfl, _, rfl, _, rfl, jp, g, r, d, cs, P, t, e, t, w, O, i, j, X, Y, by rw [me]; rfl, J, F, Nat.le_refl t, ?_, aX, aY, hi, by omega, h46, by rw [me]; exact q⟩
  rw [Int.sub_self]
  exact Int.dvd_zero _
/-- a new Jumps -/
def spJumpsInit (K : PySem.W.Frag) : Sp := fun vs H Qk _ => ∃ (jp dj g r : Addr), vs = [.ref jp, .ref g, .ref r] ∧ H jp = some (.ins (CJ K) dj []) ∧
  ∀ (d : Addr) (H' : Hp), H d = none → H' d = some (.dT []) → H' jp = some (.ins (CJ K) dj (jfs g r d)) → (∀ b o, H b = some o → b ≠ jp → H' b = some o) → Qk .non H'
theorem sc_Jumps_init : FnScope [("self" : Str), ("grove" : Str), ("rule" : Str)] ["self", "grove", "rule"] (defScope s_Jumps_init) := ⟨rfl, rfl, rfl, by decide +kernel, rfl, by decide +kernel, by decide +kernel⟩
theorem ok_Jumps_init (T : Txt K mg) : Ok P w K mg base ("Jumps", some "__init__") ["self", "grove", "rule"] 1 (spJumpsInit K) := by
  refine Ok.of T.d_Jumps_init sc_Jumps_init (fun vs H Q E h => ?_) (fun cdv A outer s H vs Q E hr h => ?_)
  · obtain ⟨jp, dj, g, r, rfl, _⟩ := h
    rfl
  obtain ⟨jp, dj, g, r, rfl, hj, k⟩ := h
  refine ⟨_, (pss_cons (ps_fld (pv 0) (pv 1) rfl)
      (pss_cons (ps_fld (pv 0) (pv 2) rfl)
      (pss_one (ps_fld (pv 0) pe_dnewT rfl)))), ?_⟩
  refine ⟨_, rfl, _, rfl, jp, _, dj, [], rfl, hj, T.c_Jumps, T.n_Jumps_grove, (by show 0 < 1000; decide), ?_⟩
  refine ⟨_, rfl, _, rfl, jp, _, dj, _, rfl, upd_same, T.c_Jumps, T.n_Jumps_rule, (by show 1 < 1000; decide), ?_⟩
  intro d hd
  have nj : jp ≠ d := ne_of_none upd_same hd
  refine ⟨_, rfl, jp, _, dj, _, rfl, (by rw [upd_ne nj]; exact upd_same), T.c_Jumps, T.n_Jumps_known, (by show 2 < 1000; decide), ?_⟩
  have hd0 : H d = none := by rw [upd_upd, upd_ne (Ne.symm nj)] at hd; exact hd
  refine k d _ hd0 (by rw [upd_ne (Ne.symm nj), upd_same]) upd_same fun b o e n => ?_
  rw [upd_ne n, upd_ne (ne_of_none e hd0), upd_ne n, upd_ne n]
  exact e
end
end Jf
/-! JfJ9 -/
set_option autoImplicit true
/-! Lists of cells as data; road. -/
namespace Jf
open PySem PySem.Spec PyProof.Rows L2
def cellD (c : Int × Int × Nat) : PyData := .tuple [.int c.1, .int c.2.1, .int (c.2.2 : Nat)]
theorem cellsD_lay : ∀ L : List (Int × Int × Nat), PyData.canLayAll0 (L.map cellD) = true ∧ PyData.depthAll (L.map cellD) ≤ 3
  | [] => ⟨rfl, by decide⟩
  | c :: r => by
    obtain ⟨h1, h2⟩ := cellsD_lay r
    refine ⟨?_, ?_⟩
    · show (PyData.canLay0 (cellD c) && PyData.canLayAll0 (r.map cellD)) = true
      rw [h1]; rfl
    · show max (PyData.depth (cellD c)) (PyData.depthAll (r.map cellD)) ≤ 3
      have : PyData.depth (cellD c) = 1 := rfl
      omega
theorem shaped_cells (L : List (Int × Int × Nat)) : SeqAt.shaped (.list (L.map cellD)) = true := by
  obtain ⟨h1, h2⟩ := cellsD_lay L
  show (PyData.canLayAll0 (L.map cellD) && decide (PyData.depthAll (L.map cellD) + 1 ≤ 64)) = true
  rw [h1, decide_eq_true (by omega)]
  rfl
theorem dp_cells {K : PySem.W.Frag} {H : Hp} {c : Addr} {L : List (Int × Int × Nat)} (h : CellsAt H c L) : Dp K H (.ref c) (.list (L.map cellD)) := by
  obtain ⟨ps, h1, h2, h3⟩ := h
  refine .lst (SqL.of h1) ?_
  clear h1
  induction L generalizing ps with
  | nil =>
    obtain rfl : ps = [] := List.eq_nil_of_length_eq_zero h2
    exact .nil
  | cons c r ih =>
    match ps, h2 with
    | p :: ps, h2 =>
      refine .cons ?_ (ih ps (Nat.succ.inj h2) fun i q x y s a b => h3 (i + 1) q x y s a b)
      obtain ⟨x, y, s⟩ := c
      exact .tup (SqT.of (h3 0 p x y s rfl rfl)) (.cons (.int _) (.cons (.int _) (.cons (.int _) .nil)))
/-- one cell more -/
theorem CellsAt.snoc {H : Hp} {c u : Addr} {L : List (Int × Int × Nat)} {x y : Int} {s : Nat} (h : CellsAt H c L) (hu : H u = some (.tup [.int x, .int y, .int (s : Nat)])) :
    ∃ ps : List Addr, H c = some (.lst (ps.map V.ref)) ∧ ps.length = L.length ∧ CellsAt (upd H c (.lst (ps.map V.ref ++ [.ref u]))) c (L ++ [(x, y, s)]) := by
  obtain ⟨ps, h1, h2, h3⟩ := h
  refine ⟨ps, h1, h2, ps ++ [u], by rw [upd_same, List.map_append]; rfl, by rw [List.length_append, List.length_append, h2]; rfl, fun i p x' y' s' a b => ?_⟩
  have nc : ∀ {q : Addr} {xs : List V}, H q = some (.tup xs) → q ≠ c := fun e z => by rw [z, h1] at e; cases e
  by_cases hi : i < ps.length
  · rw [List.getElem?_append_left hi] at a
    rw [List.getElem?_append_left (by omega)] at b
    have := h3 i p x' y' s' a b
    rw [upd_ne (nc this)]
    exact this
  · have ei : i = ps.length := by
      have := (List.getElem?_eq_some_iff.mp a).1
      rw [List.length_append, List.length_singleton] at this
      omega
    subst ei
    rw [List.getElem?_append_right (Nat.le_refl _), Nat.sub_self] at a
    rw [h2, List.getElem?_append_right (Nat.le_refl _), Nat.sub_self] at b
    obtain rfl : u = p := Option.some.inj a
    have b := Option.some.inj b
    injection b with b1 b2
    injection b2 with b2 b3
    rw [upd_ne (nc hu), ← b1, ← b2, ← b3]
    exact hu
theorem CellsAt.off {H : Hp} {c p : Addr} {L : List (Int × Int × Nat)} (h : CellsAt H c L) (hp : H p = none) (o : HO) : CellsAt (upd H p o) c L := h.same (same_new hp o)
theorem CellsAt.x {H H' : Hp} {c d : Addr} {L : List (Int × Int × Nat)} {kv : List (List Key × V)} (hd : H d = some (.dT kv)) (h : CellsAt H c L) (e : SameX d H H') : CellsAt H' c L := by
  obtain ⟨ps, h1, h2, h3⟩ := h
  exact ⟨ps, e _ _ (fun z => by rw [z, hd] at h1; cases h1) h1, h2, fun i p x y s a b => e _ _ (fun z => by have := h3 i p x y s a b; rw [z, hd] at this; cases this) (h3 i p x y s a b)⟩
theorem Fams.fam0 {S : Q → Prop} {R : Q × Nat → Prop} {P : Pat} {t e : Nat} (h : Fams S R P t e) : Fam S (ev P.g t P.f) := fun j x y hj hx hy => h.s0 j _ hj (SE.at (Nat.le_refl t) (by rw [Int.sub_self]; exact Int.dvd_zero _) hx hy)
theorem Fams.fam1 {S : Q → Prop} {R : Q × Nat → Prop} {P : Pat} {t e : Nat} (h : Fams S R P t e) : Fam S (ev P.g (t + 2 ^ e) P.f) := fun j x y hj hx hy => h.s1 j _ hj (SE.at (Nat.le_refl _) (by rw [Int.sub_self]; exact Int.dvd_zero _) hx hy)
theorem bnd_mono {f : Pl} {B B' : Int} (h : bnd f B) (le : B ≤ B') : bnd f B' := fun x y e => by
  have := h x y e
  omega
theorem sup_bnd {f : Pl} {j : Nat} (h : sup f (j + 1)) : bnd f (p2 j) := h
theorem bnd_zero {f : Pl} (h : ∀ x y, f x y = 0) : f = zeroPl := by
  funext x y
  exact h x y
section
variable {P : Program} {w : World} {K : PySem.W.Frag} {mg : Str → Option Value} {base : Heap} {S : Q → Prop} {R : Q × Nat → Prop}
/-- how a way stands behind e powers -/
def RoadSt (K : PySem.W.Frag) (S : Q → Prop) (R : Q × Nat → Prop) (P : Pat) (g d D : Addr) (w : GWd) (O : Hp) (t n : Nat) (B : Int) (e : Nat) (w' : GWd) (O' H' : Hp) (fi : Nat) (L : List (Int × Int × Nat)) : Prop :=
  JI K S R P.g g d w O w' O' H' ∧ CellsAt O' D L ∧ (∃ k', w'.cs[fi]? = some (cw (ev P.g (t + n % 2 ^ e) P.f) k') ∧ isF (ev P.g (t + n % 2 ^ e) P.f) k') ∧ bnd (ev P.g (t + n % 2 ^ e) P.f) (B + ((n % 2 ^ e : Nat) : Int)) ∧ L.length ≤ e ∧
      ((L = [] ∧ n % 2 ^ e = 0) ∨ ∃ L0 a b res m, L = L0 ++ [(a, b, res)] ∧ w'.cs[res]? = some (cw (ev P.g (t + n % 2 ^ e) P.f) m) ∧ 1 ≤ m ∧ m ≤ 48 ∧ sup (ev P.g (t + n % 2 ^ e) P.f) m ∧ Fam S (ev P.g (t + n % 2 ^ e) P.f))
theorem mod_step (n e : Nat) : n % 2 ^ (e + 1) = n % 2 ^ e + 2 ^ e * (n / 2 ^ e % 2) := Nat.mod_pow_succ
theorem div_step (n e : Nat) : n / 2 ^ (e + 1) = n / 2 ^ e / 2 := by rw [Nat.pow_succ, Nat.div_div_eq_div_mul]
/-- the tests of a jump's way: a power that is part of n -/
def FamN (S : Q → Prop) (R : Q × Nat → Prop) (P : Pat) (t n : Nat) : Prop := ∀ e, n / 2 ^ e % 2 = 1 → Fams S R P (t + n % 2 ^ e) e
def spRoad (K : PySem.W.Frag) (S : Q → Prop) (R : Q × Nat → Prop) : Sp := fun vs H Qk _ => ∃ (jp g r d : Addr) (cs : List Cl) (P : Pat) (t n : Nat) (B : Int) (w : GWd) (O : Hp) (i k : Nat), vs = [.ref jp, .int (i : Nat), .int (n : Nat)] ∧ JS K S R P.g jp g r d cs w O H ∧
  FamN S R P t n ∧ w.cs[i]? = some (cw (ev P.g t P.f) k) ∧ isF (ev P.g t P.f) k ∧ bnd (ev P.g t P.f) B ∧ 0 ≤ B ∧ B + n ≤ LIM ∧
  ∀ (F : Addr) (L : List (Int × Int × Nat)) (w' : GWd) (O' H' : Hp), JS K S R P.g jp g r d cs w' O' H' → ExC w w' → SameX d O O' → CellsAt O' F L →
    ((L = [] ∧ ev P.g (t + n) P.f = ev P.g t P.f) ∨ ∃ L0 a b res m, L = L0 ++ [(a, b, res)] ∧ w'.cs[res]? = some (cw (ev P.g (t + n) P.f) m) ∧ 1 ≤ m ∧ m ≤ 48 ∧ sup (ev P.g (t + n) P.f) m ∧ Fam S (ev P.g (t + n) P.f)) → Qk (.ref F) H'
theorem sc_road : FnScope [("jumps" : Str), ("field" : Str), ("n" : Str), ("grove" : Str), ("found" : Str), ("e" : Str), ("level" : Str), ("square" : Str), ("result" : Str)] ["jumps", "field", "n"] (defScope s_road) := ⟨rfl, rfl, rfl, by decide +kernel, rfl, by decide +kernel, by decide +kernel⟩
theorem ok_road (T : Txt K mg) : Ok P w K mg base ("road", none) ["jumps", "field", "n"] 54 (spRoad K S R) := by
  obtain ⟨fd_refuse_steps, G_refuse_steps, b_refuse_steps, k_refuse_steps⟩ := ok_refuse_steps (P := P) (w := w) (base := base) (S := S) T
  obtain ⟨fd_Grove_living, G_Grove_living, b_Grove_living, k_Grove_living⟩ := ok_Grove_living (P := P) (w := w) (base := base) (S := S) T
  obtain ⟨fd_level_for, G_level_for, b_level_for, k_level_for⟩ := ok_level_for (P := P) (w := w) (base := base) T
  obtain ⟨fd_Grove_level_of, G_Grove_level_of, b_Grove_level_of, k_Grove_level_of⟩ := ok_Grove_level_of (P := P) (w := w) (base := base) (S := S) T
  obtain ⟨fd_widened, G_widened, b_widened, k_widened⟩ := ok_widened (P := P) (w := w) (base := base) (S := S) T
  obtain ⟨fd_trimmed, G_trimmed, b_trimmed, k_trimmed⟩ := ok_trimmed (P := P) (w := w) (base := base) (S := S) T
  obtain ⟨fd_Jumps_after, G_Jumps_after, b_Jumps_after, k_Jumps_after⟩ := ok_Jumps_after (P := P) (w := w) (base := base) (S := S) (R := R) T
  refine Ok.of T.d_road sc_road (fun vs H Q E h => ?_) (fun cdv A outer s H vs Q E hr h => ?_)
  · obtain ⟨jp, g, r, d, cs, P, t, n, B, w, O, i, k, rfl, _⟩ := h
    rfl
  obtain ⟨jp, g, r, d, cs, P, t, n, B, w, O, i, k, rfl, J, hF, hi, hk, hB, B0, hBn, q⟩ := h
  obtain ⟨dj, hj⟩ := id J.jo
  obtain ⟨kv0, hd⟩ := J.jv.dict
  have hBn : B + n ≤ 1099511627776 := hBn
  have I0 : JI K S R P.g g d w O w O H := ⟨J.gv, ExC.refl w, SameX.refl d O, J.jv⟩
  have jpd : ∀ {w' O' H'}, JI K S R P.g g d w O w' O' H' → O' jp = some (.ins (CJ K) dj (jfs g r d)) := fun I => I.sx _ _ (fun z => by rw [z, hd] at hj; cases hj) hj
  have kp := hk.pos
  obtain ⟨j0, rfl⟩ : ∃ j, k = j + 1 := ⟨k - 1, by omega⟩
  refine ⟨_, (pss_cons (ps_expr (pe_call G_refuse_steps (hr.mono (by omega)) (by rfl) T.g_refuse_steps k_refuse_steps b_refuse_steps .nil pass0 (pa_cons (pv 0) (pa_cons (pv 1) (pa_cons (pv 2) pa_nil)))))
      (pss_cons (ps_set (i := 3) sc_road.nd rfl (Or.inl rfl) (pe_fld (pv 0) rfl))
      (pss_cons (ps_set (i := 4) sc_road.nd rfl (Or.inl rfl) (pe_lst pa_nil))
      (pss_cons (ps_set (i := 5) sc_road.nd rfl (Or.inl rfl) pe_int)
      (pss_cons (ps_while PassesOwn.never (PW.pt (pw_and (pt_cmpR op_gt (pv 2) pe_int (nomark _)) (pw_and1 (pt_cmpR op_gt (pe_meth (pv 3) T.c_Grove T.m_Grove_living G_Grove_living (hr.mono (by omega)) b_Grove_living .nil pass0 (pa_cons (pv 1) pa_nil)) pe_int (nomark _))))) (C8.pss_cut (ps_if (pt_cmpR op_eq (pe_op op_mod (pv 2) pe_int) pe_int (nomark _)) (pss_cons (ps_set (i := 6) sc_road.nd rfl (Or.inl rfl) (pe_call G_level_for (hr.mono (by omega)) (by rfl) T.g_level_for k_level_for b_level_for .nil pass0 (pa_cons (pe_meth (pv 3) T.c_Grove T.m_Grove_level_of G_Grove_level_of (hr.mono (by omega)) b_Grove_level_of .nil pass0 (pa_cons (pv 1) pa_nil)) (pa_cons (pv 5) pa_nil))))
      (pss_cons (ps_set (i := 7) sc_road.nd rfl (Or.inl rfl) (pv 1))
      (pss_cons (ps_while PassesOwn.never (pt_cmpR op_lt (pe_meth (pv 3) T.c_Grove T.m_Grove_level_of G_Grove_level_of (hr.mono (by omega)) b_Grove_level_of .nil pass0 (pa_cons (pv 7) pa_nil)) (pv 6) (nomark _)) (pss_one (ps_set (i := 7) sc_road.nd rfl (Or.inl rfl) (pe_call G_widened (hr.mono (by omega)) (by rfl) T.g_widened k_widened b_widened .nil pass0 (pa_cons (pv 3) (pa_cons (pv 7) pa_nil))))))
      (pss_cons (ps_set (i := 8) sc_road.nd rfl (Or.inl rfl) (pe_meth (pv 0) T.c_Jumps T.m_Jumps_after G_Jumps_after (hr.mono (by omega)) b_Jumps_after .nil pass0 (pa_cons (pv 7) (pa_cons (pv 5) pa_nil))))
      (pss_cons (ps_expr (pe_bm PySem.F.plainAttrs_list PySem.F.slot_list_append PySem.F.type_list_append mt_append (pv 4) (pa_cons (pe_tup (pa_cons (pv 7) (pa_cons (pv 5) (pa_cons (pv 8) pa_nil)))) pa_nil)))
      (pss_one (ps_set (i := 1) sc_road.nd rfl (Or.inl rfl) (pe_call G_trimmed (hr.mono (by omega)) (by rfl) T.g_trimmed k_trimmed b_trimmed .nil pass0 (pa_cons (pv 3) (pa_cons (pv 8) pa_nil)))))))))) pss_nil)
      (pss_cons (ps_set (i := 2) sc_road.nd rfl (Or.inl rfl) (pe_op op_fdiv (pv 2) pe_int))
      (pss_one (ps_set (i := 5) sc_road.nd rfl (Or.inl rfl) (pe_op op_add (pv 5) pe_int))))))
      (pss_one (ps_ret (pv 4)))))))), ?_⟩
  refine ⟨_, rfl, _, rfl, _, rfl, jp, dj, g, r, d, w, O, i, ev P.g t P.f, j0, n, B, rfl, hj, J.gv, hi, hB, hBn, fun O1 H1 G1 m1 => ?_⟩
  have I1 := I0.grove G1 (ExC.refl w) m1
  refine ⟨_, rfl, jp, _, dj, _, _, rfl, I1.sub (jpd I1), T.c_Jumps, T.n_Jumps_grove, jfs_grove g r d, ?_⟩
  refine ⟨Nat.zero_le _, fun D hD => ?_⟩
  have I2 := I1.new hD (.lst [])
  obtain ⟨fO, f0, nd0⟩ := I1.free hD
  refine ⟨fun μ σ' H' => ∃ (e : Nat) (w' : GWd) (O' : Hp) (fi : Nat) (L : List (Int × Int × Nat)) (v6 v7 v8 : Option V), σ' = [some (.ref jp), some (.int (fi : Nat)), some (.int ((n / 2 ^ e : Nat) : Int)), some (.ref g), some (.ref D), some (.int (e : Nat)), v6, v7, v8] ∧ RoadSt K S R P g d D w O t n B e w' O' H' fi L ∧ μ = n / 2 ^ e,
    ?_, ?_⟩
  · refine ⟨n / 2 ^ 0, 0, w, _, i, [], none, none, none, ?_, ⟨I2, ?_, ?_⟩, rfl⟩
    · rw [Nat.pow_zero, Nat.div_one]; rfl
    · exact ⟨[], upd_same, rfl, fun i p x y s a b => by cases a⟩
    · rw [Nat.pow_zero, Nat.mod_one, Nat.add_zero]
      exact ⟨⟨_, hi, hk⟩, by rw [Int.natCast_zero, Int.add_zero]; exact hB, Nat.le_refl _, .inl ⟨rfl, rfl⟩⟩
  rintro μ σ1 H3 ⟨e, w3, O3, fi, L, v6, v7, v8, rfl, ⟨I3, hL, ⟨k', hfi, hk'⟩, hB3, le3, hcase⟩, rfl⟩
  -- the end
  have fin : ev P.g (t + n) P.f = ev P.g (t + n % 2 ^ e) P.f → Q (.ref D) H3 := fun he => by
    refine q D L w3 O3 H3 (I3.js J.jo J.ru J.rg hd) I3.ex I3.sx hL ?_
    rcases hcase with ⟨h1, h2⟩ | h1
    · exact .inl ⟨h1, by rw [he, h2, Nat.add_zero]⟩
    · rw [he]; exact .inr h1
  have kp' := hk'.pos
  obtain ⟨j, rfl⟩ : ∃ j, k' = j + 1 := ⟨k' - 1, by omega⟩
  obtain ⟨dx3, s3, hg3, hg3'⟩ := I3.ob
  have bn : ∀ e, n % 2 ^ e ≤ n := fun e => Nat.mod_le _ _
  refine ⟨_, rfl, _, _, rfl, rfl, _, rfl, ite2 (fun c => ?_) (fun c => ?_)⟩
  · have c1 : 0 < n / 2 ^ e := by
      have := of_decide_eq_true c
      omega
    refine ⟨_, rfl, g, dx3, _, rfl, hg3', by rfl, _, rfl, g, w3, O3, fi, _, rfl, I3.gv, hfi, _, _, rfl, rfl, _, rfl, ite2 (fun c2 => ?_) (fun c2 => ?_)⟩
    · refine ⟨fun σ' H' => ∃ μ', μ' < n / 2 ^ e ∧ ∃ (e : Nat) (w' : GWd) (O' : Hp) (fi : Nat) (L : List (Int × Int × Nat)) (v6 v7 v8 : Option V), σ' = [some (.ref jp), some (.int (fi : Nat)), some (.int ((n / 2 ^ e : Nat) : Int)), some (.ref g), some (.ref D), some (.int (e : Nat)), v6, v7, v8] ∧ RoadSt K S R P g d D w O t n B e w' O' H' fi L ∧ μ' = n / 2 ^ e, fun _ _ h => h, ?_⟩
      refine ⟨fun σ' H' => ∃ (w' : GWd) (O' : Hp) (fi : Nat) (L : List (Int × Int × Nat)) (v6 v7 v8 : Option V), σ' = [some (.ref jp), some (.int (fi : Nat)), some (.int ((n / 2 ^ e : Nat) : Int)), some (.ref g), some (.ref D), some (.int (e : Nat)), v6, v7, v8] ∧ RoadSt K S R P g d D w O t n B (e + 1) w' O' H' fi L, ?_, ?_⟩
      · refine ⟨_, rfl, _, _, rfl, rfl, (by show (0 : Int) < 2; decide), rfl, _, rfl, ?_⟩
        by_cases cb : n / 2 ^ e % 2 = 1
        · have e1 : V.int (((n / 2 ^ e : Nat) : Int) % 2) = V.int 1 := congrArg V.int (by
            have z : ((n / 2 ^ e % 2 : Nat) : Int) = 1 := by rw [cb]; rfl
            rw [Int.natCast_emod] at z
            exact z)
          rw [decide_eq_true e1]
          refine iteT ?_
          have Fe := hF e cb
          have es : t + n % 2 ^ (e + 1) = t + n % 2 ^ e + 2 ^ e := by rw [mod_step, cb, Nat.mul_one, Nat.add_assoc]
          have le2 : n % 2 ^ e + 2 ^ e ≤ n := by
            have := bn (e + 1)
            rw [mod_step, cb, Nat.mul_one] at this
            exact this
          have pe : p2 e = ((2 ^ e : Nat) : Int) := p2_nat e
          have e40 : e ≤ 40 := by
            refine Classical.byContradiction fun z => ?_
            have m := p2_mono (show 41 ≤ e by omega)
            have v : p2 41 = 2199023255552 := by decide
            omega
          have v40 : p2 40 = 1099511627776 := by decide
          have j40 : j + 1 ≤ 41 := isF_le hk' (by omega) (bnd_mono hB3 (by show _ ≤ p2 40; have := bn e; omega))
          have pj := p2_mono (show j ≤ 40 by omega)
          have p40 := p2_mono e40
          have v41 : p2 41 = 2199023255552 := by decide
          refine ⟨_, rfl, g, dx3, _, rfl, hg3', by rfl, _, rfl, g, w3, O3, fi, _, rfl, I3.gv, hfi, _, rfl, j, e, 41, by rw [lev_cw]; rfl, by omega, by omega, by omega, fun k hk41 hpk => ?_⟩
          have hjk : j ≤ k := by
            refine Classical.byContradiction fun z => ?_
            have m := p2_mono (show k ≤ j by omega)
            have := p2_pos e
            omega
          have hek : e ≤ k := by
            refine Classical.byContradiction fun z => ?_
            have m := p2_mono (show k ≤ e by omega)
            have := p2_pos j
            omega
          refine ⟨_, rfl, ?_⟩
          refine ⟨fun μ σ' H' => ∃ (w' : GWd) (O' : Hp) (sq m : Nat) (v8 : Option V), σ' = [some (.ref jp), some (.int (fi : Nat)), some (.int ((n / 2 ^ e : Nat) : Int)), some (.ref g), some (.ref D), some (.int (e : Nat)), some (.int ((k + 2 : Nat) : Int)), some (.int (sq : Nat)), v8] ∧ JI K S R P.g g d w O w' O' H' ∧ ExC w3 w' ∧ Same O3 O' ∧ w'.cs[sq]? = some (cw (ev P.g (t + n % 2 ^ e) P.f) m) ∧ j + 1 ≤ m ∧ m ≤ k + 2 ∧ μ = k + 2 - m,
            ⟨_, w3, O3, fi, j + 1, v8, rfl, I3, ExC.refl _, Same.refl _, hfi, Nat.le_refl _, by omega, rfl⟩, ?_⟩
          rintro μ σ5 H5 ⟨w5, O5, sq, m, v8, rfl, I5, x5, m5, hsq, hm1, hm2, rfl⟩
          obtain ⟨dx5, s5, hg5, hg5'⟩ := I5.ob
          refine ⟨_, rfl, g, dx5, _, rfl, hg5', by rfl, _, rfl, g, w5, O5, sq, _, rfl, I5.gv, hsq, _, rfl, _, _, rfl, rfl, _, rfl, ite2 (fun c5 => ?_) (fun c5 => ?_)⟩
          · have c6 := of_decide_eq_true c5
            rw [lev_cw] at c6
            refine ⟨fun σ' H' => ∃ μ', μ' < k + 2 - m ∧ ∃ (w' : GWd) (O' : Hp) (sq m : Nat) (v8 : Option V), σ' = [some (.ref jp), some (.int (fi : Nat)), some (.int ((n / 2 ^ e : Nat) : Int)), some (.ref g), some (.ref D), some (.int (e : Nat)), some (.int ((k + 2 : Nat) : Int)), some (.int (sq : Nat)), v8] ∧ JI K S R P.g g d w O w' O' H' ∧ ExC w3 w' ∧ Same O3 O' ∧ w'.cs[sq]? = some (cw (ev P.g (t + n % 2 ^ e) P.f) m) ∧ j + 1 ≤ m ∧ m ≤ k + 2 ∧ μ' = k + 2 - m, fun _ _ h => h, ?_⟩
            refine ⟨_, rfl, _, rfl, g, w5, O5, sq, _, m, rfl, I5.gv, hsq, by omega, by omega, sup_mono hk'.sup hm1, Fe.fam0, fun i6 w6 O6 H6 G6 x6 m6 hi6 => ?_⟩
            exact ⟨k + 2 - (m + 1), by omega, w6, O6, i6, m + 1, v8, rfl, I5.grove G6 x6 m6, x5.trans x6, m5.trans m6, hi6, by omega, by omega, rfl⟩
          · have c6 : ¬ ((lev (cw (ev P.g (t + n % 2 ^ e) P.f) m) : Nat) : Int) < ((k + 2 : Nat) : Int) := of_decide_eq_false (Bool.eq_false_iff.mpr c5)
            rw [lev_cw] at c6
            obtain rfl : m = k + 2 := by omega
            have pk := p2_succ k
            have aX : al (k + 2) (-(p2 (k + 1))) := al_neg (al_p2 (by omega))
            refine ⟨_, rfl, jp, dj, _, rfl, I5.sub (jpd I5), by rfl, _, rfl, _, rfl, jp, g, r, d, cs, P, e, t + n % 2 ^ e, w5, O5, sq, k, _, _, rfl, I5.js J.jo J.ru J.rg hd, Fe, aX, aX, hsq, by omega, hek, fun res w6 O6 H6 J6 x6 m6 hr6 => ?_⟩
            have I6 := I5.of J6 x6 m6
            obtain ⟨kv5, hd5⟩ := I5.jv.dict
            have hr6' : w6.cs[res]? = some (cw (ev P.g (t + n % 2 ^ (e + 1)) P.f) (k + 1)) := by
              rw [hr6, es]
              exact congrArg some (win_at (by rw [show k + 1 - 1 = k from rfl]; omega) (by rw [show k + 1 - 1 = k from rfl]; omega))
            have hL6 : CellsAt O6 D L := (hL.same m5).x hd5 m6
            obtain ⟨ps6, hps6, _⟩ := id hL6
            refine ⟨_, rfl, .inl ⟨rfl, _, SqL.of (I6.sub hps6)⟩, _, rfl, _, rfl, _, rfl, (by show 3 ≤ sizeLine; decide), fun u hu => ?_⟩
            have I7 := I6.new hu (.tup [.int (sq : Nat), .int (e : Nat), .int (res : Nat)])
            obtain ⟨ps, hps, lps, hL7⟩ := (hL6.off (I6.free hu).1 (.tup [.int (sq : Nat), .int (e : Nat), .int (res : Nat)])).snoc (u := u) upd_same
            refine ⟨D, _, _, rfl, rfl, I7.sub hps, by rw [List.length_map, lps]; exact small1000 (by omega), ?_⟩
            have I8 := I7.mut f0 hps (.lst (ps.map V.ref ++ [.ref u]))
            have sS : sup (ev P.g (t + n % 2 ^ (e + 1)) P.f) (k + 1) := by
              rw [es, Nat.add_comm, ← ev_add]
              have b1 := bnd_ev P.g (sup_bnd hk'.sup) (2 ^ e)
              exact bnd_mono b1 (by show _ ≤ p2 k; omega)
            have fS : Fam S (ev P.g (t + n % 2 ^ (e + 1)) P.f) := by rw [es]; exact Fe.fam1
            refine ⟨_, rfl, _, rfl, g, w6, _, res, _, k + 1, rfl, I8.gv, hr6', by omega, by omega, sS, fS, fun k7 Fk7 hk7 i9 w9 O9 H9 G9 x9 m9 hi9 => ?_⟩
            refine ⟨w9, O9, i9, _, _, _, _, rfl, I8.grove G9 x9 m9, hL7.same m9, ⟨k7, hi9, Fk7⟩, ?_, ?_, .inr ⟨L, _, _, res, k + 1, rfl, x9 _ _ hr6', by omega, by omega, sS, fS⟩⟩
            · have b1 := bnd_ev P.g hB3 (2 ^ e)
              rw [ev_add, Nat.add_comm (2 ^ e), ← es] at b1
              refine bnd_mono b1 ?_
              rw [mod_step, cb, Nat.mul_one, Int.natCast_add]
              omega
            · rw [List.length_append, List.length_singleton]; omega
        · have e1 : ¬ V.int (((n / 2 ^ e : Nat) : Int) % 2) = V.int 1 := fun z => by
            injection z with z
            rw [show (((n / 2 ^ e : Nat) : Int) % 2) = ((n / 2 ^ e % 2 : Nat) : Int) from (Int.natCast_emod _ _).symm] at z
            exact cb (Int.ofNat.inj z)
          rw [decide_eq_false e1]
          refine iteF ?_
          have es : n % 2 ^ (e + 1) = n % 2 ^ e := by
            rw [mod_step, show n / 2 ^ e % 2 = 0 from (Nat.mod_two_eq_zero_or_one _).resolve_right cb, Nat.mul_zero, Nat.add_zero]
          refine ⟨w3, O3, fi, L, v6, v7, v8, rfl, I3, hL, ?_⟩
          rw [es]
          exact ⟨⟨_, hfi, hk'⟩, hB3, by omega, hcase⟩
      · rintro σ4 H4 ⟨w4, O4, fi4, L4, u6, u7, u8, rfl, st⟩
        refine ⟨_, rfl, _, _, rfl, rfl, ⟨by decide, by decide⟩, _, rfl, _, _, rfl, rfl, n / 2 ^ (e + 1), ?_, e + 1, w4, O4, fi4, L4, u6, u7, u8, ?_, st, rfl⟩
        · rw [div_step]; omega
        · rw [div_step]
          show [_, _, some (V.int (((n / 2 ^ e : Nat) : Int) / 2)), _, _, some (V.int ((e : Nat) + 1)), _, _, _] = _
          rfl
    · have c3 : ¬ 0 < lives (cw (ev P.g (t + n % 2 ^ e) P.f) (j + 1)) := fun z => c2 (decide_eq_true (by omega))
      have z := (lives_cw kp' hk'.sup).mp (by omega)
      have ez : ev P.g (t + n % 2 ^ e) P.f = zeroPl := bnd_zero z
      refine ⟨_, rfl, fin ?_⟩
      have en : t + n = (n - n % 2 ^ e) + (t + n % 2 ^ e) := by have := bn e; omega
      rw [en, ← ev_add, ez, ev_zeroPl]
  · have c1 : n / 2 ^ e = 0 := by
      have this : ¬ (((n / 2 ^ e : Nat) : Int) > 0) := of_decide_eq_false (Bool.eq_false_iff.mpr c)
      exact Nat.eq_zero_of_not_pos fun z => this (Int.ofNat_lt.mpr z)
    have en : n % 2 ^ e = n := by
      have := Nat.div_add_mod n (2 ^ e)
      rw [c1, Nat.mul_zero, Nat.zero_add] at this
      exact this
    exact iteF ⟨_, rfl, fin (by rw [en])⟩
end
end Jf
/-! JfE -/
set_option autoImplicit true
/-! enumerate(tuple). -/
namespace Jf
open PySem PySem.Spec PyProof.Rows L2
set_option maxHeartbeats 1000000 in
theorem meets_enum_new1 {v : Value} {o : Obj} {H : Heap → Prop} (B : Begins v o H) :
    Meets (Builtin.«enumerate.__new__» ⟨[.type "enumerate", v], []⟩) (fun _ R s => H s.heap ∧
      R (.ok (.ret (.ref (s.heap.push o).objs.size))) { s with heap := (s.heap.push o).push { cls := .type "enumerate", data := .fields #[.none, .bool false, .ref s.heap.objs.size, rawInt 0, .none, .none] } }) :=
  .of_wp fun prog w A R s h => by
    obtain ⟨hp, g, d, tk, os⟩ := s; obtain ⟨h1, h⟩ := h
    have hsub := sub_enumerate
    have q1 : ∀ {A' : Around} {E : Value → Shared → Prop} {Q : Value → Shared → Prop}, Q (.ref hp.objs.size) ⟨hp.push o, g, d, tk, os⟩ → wpAny (model prog w) A' (pyIter v) Q E ⟨hp, g, d, tk, os⟩ :=
      fun q => B.iter prog w _ _ ⟨hp, g, d, tk, os⟩ _ h1 q
    wp_walk using q1
    refine wpAny_stack_any fun st => wpAny_pure ?_
    split
    · rename_i c _ _ _ _ _
      cases (c == Value.type "enumerate")
      · wp_walk using q1
        exact ⟨_, rfl, h⟩
      · wp_walk using q1
        exact ⟨_, rfl, h⟩
    · wp_walk using q1
      exact ⟨_, rfl, h⟩
section
variable {prog : Program} {w : World} {A : Around} {E : Value → Shared → Prop} {s : Shared}
theorem call_enum1 {v : Value} {o : Obj} {H : Heap → Prop} {Q : Value → Shared → Prop} (B : Begins v o H) (h1 : H s.heap)
    (h : ∀ h', IsEnum h' (s.heap.objs.size + 1) s.heap.objs.size 0 .none → h'.get? s.heap.objs.size = some o → h'.objs.size = s.heap.objs.size + 2 →
      (∀ b o, s.heap.get? b = some o → h'.get? b = some o) → Q (.ref (s.heap.objs.size + 1)) { s with heap := h' }) :
    wpAny (model prog w) A (call (.type "enumerate") [v]) Q E s := by
  refine callType_new F.called_enumerate (by decide) (F.typeCall_enumerate_1 _) (F.newCall_enumerate_1 _) (fun obj => F.args_object_init_2 obj _) F.entry_enumerate_new
    (meets_enum_new1 B) ⟨h1, ?_⟩
  have hz : (s.heap.push o).objs.size = s.heap.objs.size + 1 := Heap.size_push ..
  show _ ∧ _
  rw [hz]
  have he : IsEnum ((s.heap.push o).push { cls := .type "enumerate", data := .fields #[.none, .bool false, .ref s.heap.objs.size, rawInt 0, .none, .none] }) (s.heap.objs.size + 1) s.heap.objs.size 0 .none := by
    have := Heap.get?_push_size (s.heap.push o) (o := { cls := .type "enumerate", data := .fields #[.none, .bool false, .ref s.heap.objs.size, rawInt 0, .none, .none] }) rfl
    rw [hz] at this; exact this
  refine ⟨⟨_, he, rfl⟩, h _ he (Heap.get?_push_of_some _ (Heap.get?_push_size _ B.free)) (by rw [Heap.size_push, hz]) fun b o x => Heap.get?_push_of_some _ (Heap.get?_push_of_some _ x)⟩
end
/-- the tuple at a, each item in a new pair -/
def IteT (K : PySem.W.Frag) (a : Addr) : It :=
  ⟨fun i H => ∃ (xs : List V) (x : V), SqT K H a xs ∧ xs[i]? = some x, fun i H v H' => ∃ T x, v = .ref T ∧ H T = none ∧ H' = upd H T (.tup [.int (i : Nat), x]) ∧ ∀ xs, SqT K H a xs → xs[i]? = some x, fun i H => ∃ xs : List V, SqT K H a xs ∧ xs.length ≤ i⟩
theorem tup_ne_iter {h : Heap} {a it : Addr} {i : Nat} {its : Array Value} (p : h.IsTuple a its) (q : h.IsTupleIter it a i) : a ≠ it := fun e => by
  subst e
  obtain ⟨o, e1, c1, _⟩ := p
  obtain ⟨o', e2, c2, _⟩ := q
  rw [e1] at e2
  cases e2
  rw [c1] at c2
  injection c2 with c2
  exact absurd c2 (by decide)
theorem turn_enumT {P : Program} {w : World} {K : PySem.W.Frag} {elts : List Expr} {kk : Nat} {tpos : Pos} (a e it : Addr) :
    Turn P w K (.Tuple elts kk tpos) (IteT K a) [e, it] e (fun i h => (∃ old, IsEnum h e it ((i : Nat) : Int) old) ∧ h.IsTupleIter it a i ∧ e ≠ it) where
  mem := by simp
  obj := fun i h st b hb => by
    obtain ⟨⟨old, he⟩, ⟨o, ho, hc, hd⟩, _⟩ := st
    have e' : b = e ∨ b = it := by simpa using hb
    rcases e' with z | z
    · rw [z]; exact ⟨_, he, fun v q => nomatch q⟩
    · rw [z]; exact ⟨o, ho, fun v q => by rw [hd] at q; cases q⟩
  keep := fun i h h' st k => let ⟨⟨old, he⟩, hi, hne⟩ := st; ⟨⟨old, k e (by simp) _ he⟩, hi.at fun o q => k it (by simp) o q, hne⟩
  item := by
    intro X hP hw hK hc i pins s σ H E I hf st hg
    subst hP hw hK
    obtain ⟨⟨old, he⟩, hit, hne⟩ := st
    obtain ⟨xs, x, hq, hx⟩ := hg
    obtain ⟨its, rv, p, hz⟩ := I.tuple hq
    obtain ⟨u, hu, ru⟩ := rv.get hx
    have hel : e < s.heap.objs.size := Heap.lt_size he
    have hil : it < s.heap.objs.size := by obtain ⟨_, q, _⟩ := hit; exact Heap.lt_size q
    have pt : s.heap.IsTuple a its.toArray := p
    have hat : a ≠ it := tup_ne_iter pt hit
    have hae : e ∉ [it, a] := by
      intro m
      have m' : e = it ∨ e = a := by simpa using m
      rcases m' with z | z
      · exact hne z
      · obtain ⟨o, e1, c1, _⟩ := pt
        rw [← z] at e1
        have te : ∃ o, s.heap.get? e = some o ∧ o.cls = .type "enumerate" := ⟨_, he, rfl⟩
        obtain ⟨o', e2, c2⟩ := te
        rw [e1] at e2
        cases e2
        rw [c1] at c2
        injection c2 with c2
        exact absurd c2 (by decide)
    have hlt : i < its.toArray.size := by
      have := (List.getElem?_eq_some_iff.mp hu).1
      simpa using this
    refine wpAny_pyNext_enum_itemD (Draws.tuple (A := X.A.in1) (I.ok.hd hc) it a hat its.toArray) he ⟨hit, pt⟩ hlt hne hae fun y h' tk hP ho hst' hT hsz hk => ?_
    have hy : y = u := by
      have e1 : its.toArray[i]? = some u := by simpa using hu
      rw [e1] at hP
      exact (Option.some.inj hP).symm
    subst hy
    refine ⟨_, rfl, wpAny_letOwnedTupleGo_enum (s := { s with heap := h', toks := tk + 1 }) ho fun h'' he' sb => ?_⟩
    have hT2 : h''.get? s.heap.objs.size = some { cls := .type "tuple", data := .seq #[.int i tk, y] } := (sb.2 _ (Nat.ne_of_gt hel)).trans hT
    have new : ObjOk X.prog X.w (upd H s.heap.objs.size (.tup [.int (i : Nat), x])) h'' s.heap.objs.size (.tup [.int (i : Nat), x]) :=
      ⟨by show 2 ≤ sizeLine; decide, [.int i tk, y], .cons ⟨_, rfl⟩ (.cons ru .nil), ⟨_, hT2, rfl, _, rfl⟩⟩
    have I1 : Inv X pins σ (upd H s.heap.objs.size (.tup [.int (i : Nat), x])) { s with heap := h'', toks := tk + 1 } :=
      I.turnedNew (ch := [e, it]) (fun b ob hb q => (sb.2 b (fun z => hb (by simp [z]))).trans (hk b ob (fun z => hb (by simp [z])) (fun z => hb (by simp [z])) q)) hf (Nat.le_refl _) new
    refine ⟨.ref s.heap.objs.size, _, I1, rfl, ⟨_, x, rfl, I.hok.fresh (Nat.le_refl _), rfl, fun ys hy => by rw [I.tuple_inj hy hq]; exact hx⟩, ⟨⟨y, ?_⟩, hst'.1.at fun o q => (sb.2 it (Ne.symm hne)).trans q, hne⟩, fun b hb => ?_⟩
    · have e1 : ((i + 1 : Nat) : Int) = (i : Int) + 1 := by omega
      rw [e1]; exact he'
    · have hb' : b < s.heap.objs.size := by
        have e' : b = e ∨ b = it := by simpa using hb
        rcases e' with z | z
        · rw [z]; exact hel
        · rw [z]; exact hil
      rw [upd_ne (Nat.ne_of_lt hb')]
      exact (hf b hb).1
  done := by
    intro X hP hw hK hc i pins s σ H E I hf st hg
    subst hP hw hK
    obtain ⟨⟨old, he⟩, hit, hne⟩ := st
    obtain ⟨xs, hq, hx⟩ := hg
    obtain ⟨its, rv, p, hz⟩ := I.tuple hq
    obtain ⟨f0, f1, f2, f3, f4, f5⟩ := hf it (by simp)
    have hl := rv.length
    have pt : s.heap.IsTuple a its.toArray := p
    have hat : a ≠ it := tup_ne_iter pt hit
    have hend : its.toArray[i]? = none := by simp; omega
    have hT : s.TypeIs (.ref e) "enumerate" := ⟨_, he, rfl⟩
    unfold pyNext
    refine wpAny_bind (wpAny_attempt (wpAny_callSpecial?_slot (name := Str.ofString "__next__") hT F.slot_enumerate_next
      (wpAny_call_entry F.slot_enumerate_next hT F.entry_enumerate_next ?_ (F.args_enumerate_next_1 _))))
    show wpAny _ _ (field (.ref e) 2 >>= _) _ _ _
    refine wpAny_bind (wpAny_field he rfl (x := .ref it) rfl ?_)
    refine wpAny_bind (wpAny_nextOf_tuple_end (A := X.A.in1) (I.ok.hd hc) hit pt hend fun h' x he' hx' => ?_)
    obtain ⟨o, ho, hcl⟩ := hx'
    refine wpAny_bind (wpAny_isInstance (T := "StopIteration") (b := true) ⟨o, ho, hcl⟩ isSubtype_stop ?_)
    exact wpAny_pure ⟨rfl, I.turned (t' := s.toks) (fun b o hb q => he' b o hb q) f0 f1 f3 f4 f5⟩
  self := fun A i s Q E st h => let ⟨⟨_, he⟩, _⟩ := st; wpAny_pyIter_enum he h
def iEnumT (K : PySem.W.Frag) (ta : TA) : TI := fun σ H R => ta σ H fun vs H1 => ∃ a xs, vs = [.ref a] ∧ SqT K H1 a xs ∧ R (IteT K a) H1
theorem pi_enumT {X : Cx} {e : Expr} {ta : TA} {p pos tpos : Pos} {elts : List Expr} {kk : Nat} (hg : L2.Gl X "enumerate") (hm : X.mg "enumerate" = none) (ha : PA X [e] ta) (hs : starEach [e] X.env = [(false, eval e X.env)] := by rfl) :
    PI X (.Tuple elts kk tpos) (.Call (.Name "enumerate" p) [e] [] pos) (iEnumT X.K ta) := by
  refine ⟨fun pins s σ H R I h => ?_⟩
  refine Call_ (ld_blt I hg hm boot_enumerate (PyProof.Rows.callWith_type1 (thn (ha.run pos pins s σ H _ I h) fun us s1 ⟨vs, H1, I1, r1, q1⟩ => ?_) hs rfl))
  obtain ⟨a, xs, ex, hq, q⟩ := q1
  subst ex
  cases r1 with
  | cons r rr =>
    cases rr
    cases r
    obtain ⟨its, rv, p', hz⟩ := I1.tuple hq
    have pt : s1.heap.IsTuple a its.toArray := p'
    refine call_enum1 (begins_tuple a its.toArray) pt fun h' he hit hsz hk => wpAny_pyIter_enum he ?_
    have I2 : Inv X pins σ H1 { s1 with heap := h' } := I1.kept (t' := s1.toks) hk
    refine ⟨s1.heap.objs.size + 1, [s1.heap.objs.size + 1, s1.heap.objs.size], _, _, H1, rfl, I2, turn_enumT a (s1.heap.objs.size + 1) s1.heap.objs.size, ⟨⟨.none, he⟩, ⟨_, hit, rfl, rfl⟩, Nat.succ_ne_self _⟩, fun b hb => ?_, q⟩
    have e' : b = s1.heap.objs.size + 1 ∨ b = s1.heap.objs.size := by simpa using hb
    have hle : s1.heap.objs.size ≤ b := by
      rcases e' with z | z
      · rw [z]; exact Nat.le_add_right _ _
      · rw [z]; exact Nat.le_refl _
    exact I1.fpOk hle (I1.hok.fresh hle)
end Jf
/-! JfS -/
set_option autoImplicit true
/-! sorted(cells, key=by_rows). -/
namespace Jf
open PySem PySem.Spec PyProof.Rows L2
/-- by_rows of a cell's tuple -/
def spByRows : Sp := fun vs H Q _ => ∃ (t : Addr) (x y : Int) (s : Nat), vs = [.ref t] ∧ H t = some (.tup [.int x, .int y, .int (s : Nat)]) ∧ ∀ (p : Addr) H', Same H H' → H' p = some (.tup [.int y, .int x]) → Q (.ref p) H'
abbrev SC := Addr × (Int × Int × Nat)
abbrev keyD (b : SC) : PyData := .tuple [.int b.2.2.1, .int b.2.1]
/-- by rows: y, then x -/
def leC (p q : SC) : Bool := decide (p.2.2.1 < q.2.2.1 ∨ (p.2.2.1 = q.2.2.1 ∧ p.2.1 ≤ q.2.1))
theorem dataLe_C : PySem.W.dataLe false keyD = leC := PySem.W.dataLe_ii (fun b : SC => b.2.2.1) (fun b => b.2.1)
/-- the heap without one object -/
theorem heap_less (h : Heap) (k : Addr) : ∃ g : Heap, g.get? k = none ∧ ∀ b, b ≠ k → g.get? b = h.get? b := by
  refine ⟨h.update k (fun _ => { cls := .none, data := .freed }), ?_, fun b hb => Heap.get?_update_ne _ _ _ _ hb⟩
  obtain ⟨objs, l⟩ := h
  unfold Heap.update Heap.get?
  simp only [Array.getElem?_modify]
  cases objs[k]? <;> rfl
/-- cells' tuples as the sort's items -/
def itemOf (b : SC) : Value := .ref b.1
theorem items_each (bs : List SC) : PySem.W.EachIs (fun v (b : SC) => v = .ref b.1) (bs.map itemOf) bs := by
  induction bs with
  | nil => exact .nil
  | cons b r ih => exact .cons rfl ih
theorem items_back {out : List Value} {bs : List SC} (h : PySem.W.EachIs (fun v (b : SC) => v = .ref b.1) out bs) : out = bs.map itemOf := by
  induction h with
  | nil => rfl
  | cons h _ ih => rw [List.map_cons, ih, h]; rfl
theorem items_vals (bs : List SC) : Vals (bs.map fun b => V.ref b.1) (bs.map itemOf) := by
  induction bs with
  | nil => exact .nil
  | cons b r ih => exact .cons rfl ih
theorem vals_items {bs : List SC} {us : List Value} (h : Vals (bs.map fun b => V.ref b.1) us) : us = bs.map itemOf := by
  induction bs generalizing us with
  | nil => cases h; rfl
  | cons b r ih =>
    cases h with
    | cons h1 h2 =>
      rw [ih h2, List.map_cons, show _ = _ from h1]
      rfl
section
variable {X : Cx} {pins : List (Addr × Obj)} {σ : L2.St} {k : Nat} {f : Addr} {fd : FuncData} {pn : Str}
/-- one key is asked -/
theorem key_turn {A : Around} (F : FnOk X.prog X.w X.K X.mg X.base CX0 k f fd [pn] spByRows) (hb : Binds X.K fd [pn] []) (hA : Room k A) (hfr : A.frames = some X.stack) {H : Hp} {s : Shared} (I : Inv X pins σ H s) {b : SC}
    (hbt : H b.1 = some (.tup [.int b.2.1, .int b.2.2.1, .int (b.2.2.2 : Nat)])) :
    wpAny (model X.prog X.w) A (call (.ref f) [itemOf b]) (fun u s' => ∃ p H', Inv X pins σ H' s' ∧ Same H H' ∧ u = .ref p ∧ H' p = some (.tup [.int b.2.2.1, .int b.2.1])) (fun _ _ => False) s := by
  have e0 := I.env0
  have e1 : Env0 X.prog X.w X.K X.mg X.base A X.stack s H := ⟨hfr, e0.mod, e0.bs, e0.bsz, e0.funs, e0.frf, e0.hok, e0.bare⟩
  have r1 : Vals [V.ref b.1] [itemOf b] := .cons rfl .nil
  refine wpAny_call (codeAny_mono (F.run A X.stack s H ⟨[itemOf b], []⟩ [itemOf b] [V.ref b.1] (fun v H' => ∃ p, v = .ref p ∧ Same H H' ∧ H' p = some (.tup [.int b.2.2.1, .int b.2.1])) (fun _ _ _ => False) hA e1 (hb s [itemOf b] I.kIn rfl) r1 ?_) fun r s' hq => ?_)
  · exact ⟨b.1, _, _, _, rfl, hbt, fun p H' m h => ⟨p, rfl, m, h⟩⟩
  cases r with
  | error e => exact hq.elim
  | ok fl =>
    cases fl with
    | ret u =>
      obtain ⟨v, H', I', rv, p, rfl, m, hp⟩ := I.after hq
      exact ⟨p, H', I', m, rv, hp⟩
    | next => exact False.elim hq
    | brk => exact False.elim hq
    | cont => exact False.elim hq
/-- two records are remembered -/
theorem pins_two {H : Hp} {s : Shared} {a kS : Addr} {oa ok : Obj} (I : Inv X pins σ H s) (fa : FpOk X pins H a) (fk : FpOk X pins H kS) (ga : s.heap.get? a = some oa) (gk : s.heap.get? kS = some ok) (na : ∀ v, oa.data ≠ .cell v) (nk : ∀ v, ok.data ≠ .cell v) : Inv X ((a, oa) :: (kS, ok) :: pins) σ H s := by
  refine I.pins_of fun p hp => ?_
  rcases List.mem_cons.mp hp with rfl | hp
  · exact ⟨ga, fa.1, fa.2.1, fa.2.2.1, na⟩
  rcases List.mem_cons.mp hp with rfl | hp
  · exact ⟨gk, fk.1, fk.2.1, fk.2.2.1, nk⟩
  · exact I.pin p (List.mem_append_right _ hp)
theorem pins_none {H : Hp} {s : Shared} {ps : List (Addr × Obj)} (I : Inv X (ps ++ pins) σ H s) : Inv X pins σ H s := I.pins_of fun p hp => I.pin p (List.mem_append_right _ (List.mem_append_right _ hp))
/-- the sorted list is there -/
theorem sort_held {H : Hp} {s : Shared} {a kS : Addr} (I : Inv X pins σ H s) (fa : FpOk X pins H a) (fk : FpOk X pins H kS) {h' : Heap} {tk : Nat} (kp : ∀ b o, b ≠ a → b ≠ kS → s.heap.get? b = some o → h'.get? b = some o) {bs : List SC} {c : Nat}
    (ha : h'.get? a = some (seqObj "list" (bs.map itemOf).toArray c))  (hL : bs.length ≤ sizeLine) : Inv X pins σ (upd H a (.lst (bs.map fun b => V.ref b.1))) { s with heap := h', toks := tk } := by
  have ne : ∀ b u, H b = some u → b ≠ a ∧ b ≠ kS := fun b u e => ⟨fun z => (by rw [z, fa.1] at e; cases e), fun z => (by rw [z, fk.1] at e; cases e)⟩
  refine I.step (g' := s.gens) (d' := s.drawn) (ch := [a, kS]) (fun b hb => ?_) (fun b o _ _ hc e _ => kp b o (fun z => hc (by simp [z])) (fun z => hc (by simp [z])) e) (fun b o _ _ hc e _ => ⟨o.slots, kp b o (fun z => hc (by simp [z])) (fun z => hc (by simp [z])) e⟩)
    (fun b o hc e n => by rw [upd_ne (fun z => hc (by simp [z]))]; exact n) (fun b o hc e => ⟨o, kp b o (fun z => hc (by simp [z])) (fun z => hc (by simp [z])) e⟩) (fun b xs e => by rw [upd_ne (ne b _ e).1]; exact e) (fun b o u e => by rw [upd_ne (ne b _ e).1]; exact e)
    (fun b ps e => ⟨#[], by rw [upd_ne (ne b _ e).1, e]; simp⟩) (fun m hm => ?_) (fun b u e => ?_) I.bare
  · have e : b = a ∨ b = kS := by simpa using hb
    rcases e with rfl | rfl
    · exact ⟨fa.2.2.2.1, fa.2.1, fa.2.2.2.2.1, fa.2.2.2.2.2⟩
    · exact ⟨fk.2.2.2.1, fk.2.1, fk.2.2.2.2.1, fk.2.2.2.2.2⟩
  · obtain ⟨o, es, ep, ho, r⟩ := hm
    exact ⟨o, es, ep, kp _ o (Ne.symm fa.2.1) (Ne.symm fk.2.1) ho, r⟩
  · by_cases hb : b = a
    · subst hb
      rw [upd_same] at e
      cases e
      exact ⟨by rw [List.length_map]; exact hL, _, c, items_vals bs, ha⟩
    · rw [upd_ne hb] at e
      refine (I.hok b u e).stay (fun c v hc q => ?_) (fun c q => by rw [upd_ne (ne c _ q).1]; exact q) fun c xs q => by rw [upd_ne (ne c _ q).1]; exact q
      rcases hc with z | z
      · rw [z] at q ⊢; exact kp b v (ne b u e).1 (ne b u e).2 q
      · exact kp c v (ne c _ z).1 (ne c _ z).2 q
theorem fp_same {H H' : Hp} {b : Addr} (h : FpOk X pins H b) (e : H' b = none) : FpOk X pins H' b := ⟨e, h.2⟩
theorem cells_alike (bs : List SC) : PySem.W.AllAlike (bs.map keyD) := PySem.W.AllAlike.of fun _ _ => by simp [PySem.W.alike, PySem.W.alikeAll]
theorem cells_sortable (bs : List SC) : PySem.W.Sortable (bs.map keyD) := PySem.W.Sortable.tuples fun _ => ⟨_, _, rfl⟩
theorem key_rest {A : Around} {E : Value → Shared → Prop} {P : PySem.Fin → Shared → Prop} {s : Shared} {H : Hp} {a kS : Addr} {e1 : Nat} {bs : List SC} (F : FnOk X.prog X.w X.K X.mg X.base CX0 k f fd [pn] spByRows) (hb : Binds X.K fd [pn] []) (hA : Room k A) (hfr : A.frames = some X.stack)
    (I : Inv X ((a, seqObj "list" #[] e1) :: (kS, seqObj "list" #[] 0) :: pins) σ H s) (fa : FpOk X pins H a) (fk : FpOk X pins H kS) (hka : kS ≠ a) (hL : bs.length ≤ sizeLine) (hu : A.units + 64 < cLine)
    (hbs : ∀ b ∈ bs, H b.1 = some (.tup [.int b.2.1, .int b.2.2.1, .int (b.2.2.2 : Nat)]))
    (h : ∀ s' H', Inv X pins σ H' s' → Same H H' → H' a = some (.lst ((bs.mergeSort leC).map fun b => V.ref b.1)) → P (.done (.ret .none)) s') :
    wpAny (model X.prog X.w) A (PyProof.Rows.ksk_rest a (.ref f) false (bs.map itemOf).toArray e1 (.ref kS)) P E s := by
  unfold PyProof.Rows.ksk_rest
  refine wpAny_bind (wpAny_rule ?_)
  first
    | rw [List.forIn_toArray]
    | (rw [← Array.forIn_toList]; simp only [List.toList_toArray])
    | rw [← Array.forIn_toList]
  have cell0 : ∀ (xs : Array Value) (e : Nat) v, (seqObj "list" xs e).data ≠ .cell v := fun xs e v z => by cases z
  have two : ∀ {pins' : List (Addr × Obj)} {p1 p2 : Addr × Obj} {H' : Hp} {s' : Shared}, Inv X (p1 :: p2 :: pins') σ H' s' → (s'.heap.get? p1.1 = some p1.2 ∧ H' p1.1 = none) ∧ (s'.heap.get? p2.1 = some p2.2 ∧ H' p2.1 = none) := fun I => by
    have i1 := I.pin _ (List.mem_append_right _ (List.mem_cons_self ..))
    have i2 := I.pin _ (List.mem_append_right _ (List.mem_cons_of_mem _ (List.mem_cons_self ..)))
    exact ⟨⟨i1.1, i1.2.1⟩, ⟨i2.1, i2.2.1⟩⟩
  refine wpAny_bind (PyProof.Rows.ksk_fold (fun i s' => ∃ (H' : Hp) (kA : Array Value) (e : Nat) (ps : List Addr), Inv X ((a, seqObj "list" #[] e1) :: (kS, seqObj "list" kA e) :: pins) σ H' s' ∧ Same H H' ∧ kA.toList = ps.map Value.ref ∧ ps.length = i ∧
      ∀ (j : Nat) p b, ps[j]? = some p → bs[j]? = some b → H' p = some (.tup [.int b.2.2.1, .int b.2.1])) (bs.map itemOf) 0 s ⟨H, #[], 0, [], I, Same.refl H, rfl, rfl, fun j p b h => by cases h⟩ ?step ?done)
  case step =>
    rintro j x s' hx ⟨H', kA, e, ps, I', m, hkA, hps, hkeys⟩
    simp only [Nat.zero_add] at hps ⊢
    rw [List.getElem?_map] at hx
    obtain ⟨b, hbj, rfl⟩ : ∃ b, bs[j]? = some b ∧ itemOf b = x := by
      cases q : bs[j]? with
      | none => rw [q] at hx; cases hx
      | some b => rw [q] at hx; exact ⟨b, rfl, Option.some.inj hx⟩
    have hbt := m _ _ (hbs b (List.mem_of_getElem? hbj))
    have hjl : j < bs.length := (List.getElem?_eq_some_iff.mp hbj).1
    refine wpAny_bind (wpAny_attempt (wpAny_mono (key_turn F hb hA hfr I' hbt) (fun v s'' he => ?_) fun _ _ hF => hF.elim))
    obtain ⟨p, H2, I2, m2, rfl, hp⟩ := he
    obtain ⟨⟨ga, na⟩, ⟨gk, nk⟩⟩ := two I2
    have hz : kA.size ≤ bs.length := by
      rw [← Array.length_toList, hkA, List.length_map, hps]
      omega
    try dsimp only
    refine wpAny_bind (PyProof.Rows.listUpdate_at gk rfl ?_ (Nat.le_trans hz hL) (Nat.le_trans (Nat.le_of_eq (Array.size_push ..)) (Nat.succ_le_succ (Nat.le_trans hz hL))))
    obtain ⟨c2, hc2⟩ : ∃ c2, (s''.heap.update kS (Obj.mapSeq (·.push (.ref p)))).get? kS = some (seqObj "list" (kA.push (.ref p)) c2) := ⟨_, get?_update_seq gk (·.push (.ref p))⟩
    have s1 := Heap.SameBut.update s''.heap kS (Obj.mapSeq (·.push (.ref p)))
    have I3 := pins_none (ps := [(a, seqObj "list" #[] e1), (kS, seqObj "list" kA e)]) I2
    have fk2 := fp_same fk nk
    have fa2 := fp_same fa na
    have I4 : Inv X pins σ H2 { s'' with heap := s''.heap.update kS (Obj.mapSeq (·.push (.ref p))), toks := s''.toks } := I3.turned (fun b o hb e => (s1.2 b hb).trans e) fk2.1 fk2.2.1 fk2.2.2.2.1 fk2.2.2.2.2.1 fk2.2.2.2.2.2
    have I5 := pins_two I4 fa2 fk2 ((s1.2 a hka.symm).trans ga) hc2 (cell0 _ _) (cell0 _ _)
    refine wpAny_pure ⟨rfl, H2, kA.push (.ref p), c2, ps ++ [p], I5, m.trans m2, by simp [hkA], by rw [List.length_append, hps]; rfl, fun j' p' b' h1 h2 => ?_⟩
    by_cases hj : j' < ps.length
    · rw [List.getElem?_append_left hj] at h1
      exact m2 _ _ (hkeys j' p' b' h1 h2)
    · have ej : j' = ps.length := by
        have := (List.getElem?_eq_some_iff.mp h1).1
        rw [List.length_append, List.length_singleton] at this
        omega
      subst ej
      rw [List.getElem?_append_right (Nat.le_refl _), Nat.sub_self] at h1
      rw [hps, hbj] at h2
      obtain rfl : p = p' := Option.some.inj h1
      obtain rfl : b = b' := Option.some.inj h2
      exact hp
  case done =>
    rintro s' ⟨H', kA, e, ps, I', m, hkA, hps, hkeys⟩
    rw [Nat.zero_add, List.length_map] at hps
    obtain ⟨⟨ga, na⟩, ⟨gk, nk⟩⟩ := two I'
    have I3 := pins_none (ps := [(a, seqObj "list" #[] e1), (kS, seqObj "list" kA e)]) I'
    have fk2 := fp_same fk nk
    have fa2 := fp_same fa na
    have hsz : kA.size = (bs.map itemOf).length := by rw [← Array.length_toList, hkA, List.length_map, List.length_map, hps]
    have hk' : PySem.W.EachIs (fun v d => ∃ as, Reads s'.heap v d as) kA.toList (bs.map keyD) := by
      rw [hkA]
      have go : ∀ (ps : List Addr) (cs : List SC), ps.length = cs.length → (∀ (j : Nat) p b, ps[j]? = some p → cs[j]? = some b → H' p = some (.tup [.int b.2.2.1, .int b.2.1])) → PySem.W.EachIs (fun v d => ∃ as, Reads s'.heap v d as) (ps.map Value.ref) (cs.map keyD) := by
        intro ps
        induction ps with
        | nil =>
          intro cs hl _
          obtain rfl : cs = [] := List.eq_nil_of_length_eq_zero hl.symm
          exact .nil
        | cons p ps ih =>
          intro cs hl hk
          match cs, hl with
          | c :: cs, hl =>
            refine .cons ?_ (ih cs (Nat.succ.inj hl) fun j p b h1 h2 => hk (j + 1) p b h1 h2)
            exact Dp.reads I3 (keyD c) (.ref p) (.ref p) (.tup (SqT.of (hk 0 p c rfl rfl)) (.cons (.int _) (.cons (.int _) .nil))) rfl
      exact go ps bs hps hkeys
    obtain ⟨g, gn, gs⟩ := heap_less s'.heap kS
    have kp : PySem.W.KeepsBut a g s'.heap := fun b o hb e => by
      by_cases z : b = kS
      · rw [z, gn] at e; cases e
      · rw [← gs b z]; exact e
    try dsimp only
    refine wpAny_bind (PyProof.Rows.listItems_at gk rfl ?_)
    refine PySem.W.keyH_end (κ := PySem.W.dataKind s'.heap (bs.map keyD)) (h₁ := g) kp gn gk ga hka (PySem.W.SortsAt.data (s := s') hk' (cells_alike bs) (cells_sortable bs) ?_) hsz (by rw [List.length_map]; exact hL) fun h3 tk3 c k3 n3 => ?_
    · intro d hd
      obtain ⟨b, _, rfl⟩ := List.mem_map.mp hd
      have : PyData.depth (keyD b) = 1 := rfl
      omega
    · have ko : PySem.W.KeyedOut false (bs.map keyD) (bs.map itemOf) (PySem.W.sortVals (PySem.W.dataKind s'.heap (bs.map keyD)) false kA.toList (bs.map itemOf)) := ⟨s'.heap, kA.toList, cells_alike bs, rfl, hk'⟩
      have eo := PySem.W.keyedOut_each keyD ko (items_each bs)
      rw [dataLe_C] at eo
      rw [items_back eo] at n3
      have I6 := sort_held (tk := tk3) I3 fa2 fk2 (h' := h3) (fun b o h1 h2 e => k3 b o h1 (by rw [gs b h2]; exact e)) n3 (by rw [List.length_mergeSort]; exact hL)
      exact h _ _ I6 (fun b o q => by rw [upd_ne (fun z => by rw [z, fa.1] at q; cases q)]; exact m _ _ q) upd_same
def rSortedBy (K : PySem.W.Frag) (f : Addr) : List V → List V → Hp → VK → Prop := fun vs zs H Q => ∃ (a : Addr) (bs : List SC), vs = [V.ref a] ∧ zs = [V.ref f] ∧ SqL K H a (bs.map fun b => V.ref b.1) ∧ (∀ b ∈ bs, H b.1 = some (.tup [.int b.2.1, .int b.2.2.1, .int (b.2.2.2 : Nat)])) ∧
  ∀ (p : Addr) H', H p = none → Same H H' → H' p = some (.lst ((bs.mergeSort leC).map fun b => V.ref b.1)) → Q (.ref p) H'
/-- sorted(cells, key=by_rows) -/
theorem cr_sortedBy (F : FnOk X.prog X.w X.K X.mg X.base CX0 k f fd [pn] spByRows) (hb : Binds X.K fd [pn] []) (hA : Room (k + 2) X.A) : CallRK X (.builtin "sorted") [Str.ofString "key"] (rSortedBy X.K f) := by
  intro pins s σ H vs zs us ws Q I r rz h
  obtain ⟨a0, bs, rfl, rfl, hs, hbs, q⟩ := h
  obtain rfl := Vals.ref1 r
  obtain ⟨w1, rfl, e1⟩ := vals1 rz
  obtain rfl : w1 = Value.ref f := e1
  obtain ⟨its, rv, hl, hz⟩ := I.list hs
  obtain rfl := vals_items rv
  rw [List.length_map] at hz
  have hfr : X.A.in1.in1.frames = some X.stack := I.env0.frames
  refine PySem.W.sorted_of_sort hl.isList (by rw [List.length_map]; exact hz) (PyProof.Rows.ksk_s1 _ _) (fun _ => PyProof.Rows.ksk_l1 _ _) fun E' => ?_
  show wpAny _ _ (Builtin.«list.sort» ⟨[.ref (s.heap.objs.size + 1)], [(Str.ofString "key", .ref f)]⟩) _ _ _
  rw [PyProof.Rows.ksk_t1]
  obtain ⟨a, ea⟩ : ∃ a, a = s.heap.objs.size + 1 := ⟨_, rfl⟩
  have ho : (PySem.W.copyHeap s.heap (bs.map itemOf)).get? a = some (seqObj "list" (bs.map itemOf).toArray 0) := by rw [ea]; exact PySem.W.copyHeap_at s.heap (bs.map itemOf)
  rw [← ea]
  obtain ⟨e1, ho1⟩ : ∃ e1, ((PySem.W.copyHeap s.heap (bs.map itemOf)).update a (Obj.mapSeq fun _ => (#[] : Array Value))).get? a = some (seqObj "list" #[] e1) := ⟨_, get?_update_seq ho fun _ => #[]⟩
  have ha : a < (PySem.W.copyHeap s.heap (bs.map itemOf)).objs.size := Heap.lt_size ho
  have hkS : (((PySem.W.copyHeap s.heap (bs.map itemOf)).update a (Obj.mapSeq fun _ => (#[] : Array Value))).push (seqObj "tuple" (bs.map itemOf).toArray 0)).objs.size = (PySem.W.copyHeap s.heap (bs.map itemOf)).objs.size + 1 := by rw [size_push', Heap.size_update]
  have hLm : (bs.map itemOf).length ≤ sizeLine := by rw [List.length_map]; exact hz
  unfold PyProof.Rows.ksk_tree
  refine wpAny_bind (PyProof.Rows.listItems_at ho rfl ?_)
  refine wpAny_bind (PyProof.Rows.listUpdate_at ho rfl ?_ (by rw [List.size_toArray]; exact hLm) (Nat.zero_le _))
  refine wpAny_bind (PyProof.Rows.seqEpoch_at ho1 rfl ?_)
  refine wpAny_bind (wpAny_newTuple ?_ (by show (bs.map itemOf).length ≤ _; exact hLm))
  refine wpAny_bind (wpAny_newList ?_ (Nat.zero_le _))
  refine wpAny_holding ?_
  obtain ⟨kS, ek⟩ : ∃ kS, kS = (((PySem.W.copyHeap s.heap (bs.map itemOf)).update a (Obj.mapSeq fun _ => (#[] : Array Value))).push (seqObj "tuple" (bs.map itemOf).toArray 0)).objs.size := ⟨_, rfl⟩
  have hkp : ∀ b o, s.heap.get? b = some o → (PySem.W.sortingHeap (PySem.W.copyHeap s.heap (bs.map itemOf)) a (bs.map itemOf)).get? b = some o := fun b o e => PySem.W.sortingHeap_old (by rw [ea]; exact Nat.ne_of_lt (Nat.lt_succ_of_lt (Heap.lt_size e))) (PySem.W.copyHeap_old e)
  have I1 : Inv X pins σ H { s with heap := PySem.W.sortingHeap (PySem.W.copyHeap s.heap (bs.map itemOf)) a (bs.map itemOf), toks := s.toks } := I.kept hkp
  have hka : kS ≠ a := by rw [ek, hkS]; exact Nat.ne_of_gt (Nat.lt_succ_of_lt ha)
  have hks2 : s.heap.objs.size ≤ kS := by
    rw [ek, hkS]
    exact Nat.le_trans (Nat.le_trans (by rw [ea]; exact Nat.le_succ _) (Nat.le_of_lt ha)) (Nat.le_succ _)
  have hs1 : s.heap.objs.size ≤ a := by rw [ea]; exact Nat.le_succ _
  have fa : FpOk X pins H a := I.fpOk hs1 (I.hok.fresh hs1)
  have fk : FpOk X pins H kS := I.fpOk hks2 (I.hok.fresh hks2)
  have gk : (PySem.W.sortingHeap (PySem.W.copyHeap s.heap (bs.map itemOf)) a (bs.map itemOf)).get? kS = some (seqObj "list" #[] 0) := by rw [ek]; exact Heap.get?_push_size _ rfl
  have ga : (PySem.W.sortingHeap (PySem.W.copyHeap s.heap (bs.map itemOf)) a (bs.map itemOf)).get? a = some (seqObj "list" #[] e1) := Heap.get?_push_of_some _ (Heap.get?_push_of_some _ ho1)
  have I2 := pins_two I1 fa fk ga gk (fun v z => by cases z) (fun v z => by cases z)
  rw [← ek]
  have hA1 : Room k X.A.in1.in1 := hA.in1.in1
  refine key_rest F hb hA1 hfr I2 fa fk hka hz hA1.units hbs fun s' H' I' m hp => ⟨rfl, ?_⟩
  exact ⟨V.ref a, H', I', rfl, q a H' fa.1 m hp⟩
end
end Jf
/-! JfC1 -/
set_option autoImplicit true
/-! by_rows; stacks; cells_of. -/
namespace Jf
open PySem PySem.Spec PyProof.Rows L2
theorem walk_enumT {K : PySem.W.Frag} {a : Addr} {xs : List V} : Walk (IteT K a) xs.length (fun H => SqT K H a xs) (YPair (fun i => some (.int (i : Nat))) (fun i => xs[i]?)) := by
  refine ⟨fun i _ hi q => ⟨xs, xs[i], q, by simp [hi]⟩, fun _ q => ⟨xs, q, Nat.le_refl _⟩, fun i H v H' _ q y => ?_⟩
  obtain ⟨T, x, h1, h2, h3, h4⟩ := y
  exact ⟨T, .int (i : Nat), x, h1, h2, h3, rfl, h4 xs q⟩
/-- a list of tuples -/
def TupsAt (H : Hp) (c : Addr) (L : List (List V)) : Prop := ∃ ps : List Addr, H c = some (.lst (ps.map V.ref)) ∧ ps.length = L.length ∧ ∀ (i : Nat) (p : Addr) t, ps[i]? = some p → L[i]? = some t → H p = some (.tup t)
theorem TupsAt.same {H H' : Hp} {c : Addr} {L : List (List V)} (h : TupsAt H c L) (e : Same H H') : TupsAt H' c L := by
  obtain ⟨ps, h1, h2, h3⟩ := h
  exact ⟨ps, e _ _ h1, h2, fun i p t a b => e _ _ (h3 i p t a b)⟩
theorem TupsAt.lst {H : Hp} {c : Addr} {L : List (List V)} (h : TupsAt H c L) : ∃ l : List V, H c = some (.lst l) ∧ l.length = L.length := by
  obtain ⟨ps, h1, h2, _⟩ := h
  exact ⟨_, h1, by rw [List.length_map, h2]⟩
theorem TupsAt.off {H : Hp} {c c' : Addr} {L : List (List V)} (h : TupsAt H c L) (n : c ≠ c') {l : List V} (e : H c' = some (.lst l)) (o : HO) : TupsAt (upd H c' o) c L := by
  obtain ⟨ps, h1, h2, h3⟩ := h
  exact ⟨ps, by rw [upd_ne n]; exact h1, h2, fun i p t a b => by rw [upd_ne (fun z => by have := h3 i p t a b; rw [z, e] at this; cases this)]; exact h3 i p t a b⟩
theorem CellsAt.offL {H : Hp} {c c' : Addr} {L : List (Int × Int × Nat)} (h : CellsAt H c L) (n : c ≠ c') {l : List V} (e : H c' = some (.lst l)) (o : HO) : CellsAt (upd H c' o) c L := by
  obtain ⟨ps, h1, h2, h3⟩ := h
  exact ⟨ps, by rw [upd_ne n]; exact h1, h2, fun i p x y s a b => by rw [upd_ne (fun z => by have := h3 i p x y s a b; rw [z, e] at this; cases this)]; exact h3 i p x y s a b⟩
theorem TupsAt.snoc {H : Hp} {c u : Addr} {L : List (List V)} {t : List V} (h : TupsAt H c L) (hu : H u = some (.tup t)) :
    ∃ ps : List Addr, H c = some (.lst (ps.map V.ref)) ∧ ps.length = L.length ∧ TupsAt (upd H c (.lst (ps.map V.ref ++ [.ref u]))) c (L ++ [t]) := by
  obtain ⟨ps, h1, h2, h3⟩ := h
  refine ⟨ps, h1, h2, ps ++ [u], by rw [upd_same, List.map_append]; rfl, by rw [List.length_append, List.length_append, h2]; rfl, fun i p t' a b => ?_⟩
  have nc : ∀ {q : Addr} {xs : List V}, H q = some (.tup xs) → q ≠ c := fun e z => by rw [z, h1] at e; cases e
  by_cases hi : i < ps.length
  · rw [List.getElem?_append_left hi] at a
    rw [List.getElem?_append_left (by omega)] at b
    have := h3 i p t' a b
    rw [upd_ne (nc this)]
    exact this
  · have ei : i = ps.length := by
      have := (List.getElem?_eq_some_iff.mp a).1
      rw [List.length_append, List.length_singleton] at this
      omega
    subst ei
    rw [List.getElem?_append_right (Nat.le_refl _), Nat.sub_self] at a
    rw [h2, List.getElem?_append_right (Nat.le_refl _), Nat.sub_self] at b
    obtain rfl : u = p := Option.some.inj a
    obtain rfl : t = t' := Option.some.inj b
    rw [upd_ne (nc hu)]
    exact hu
theorem TupsAt.pop {H : Hp} {c : Addr} {L : List (List V)} {t : List V} (h : TupsAt H c (L ++ [t])) :
    ∃ (ps : List Addr) (p : Addr), H c = some (.lst (ps.map V.ref ++ [.ref p])) ∧ H p = some (.tup t) ∧ p ≠ c ∧ TupsAt (upd H c (.lst (ps.map V.ref))) c L := by
  obtain ⟨qs, h1, h2, h3⟩ := h
  obtain ⟨ps, p, rfl⟩ : ∃ l x, qs = l ++ [x] := by
    rcases List.eq_nil_or_concat qs with e | ⟨l, x, e⟩
    · rw [e, List.length_append] at h2; simp at h2
    · exact ⟨l, x, by rw [e, List.concat_eq_append]⟩
  rw [List.map_append] at h1
  have hl : ps.length = L.length := by
    rw [List.length_append, List.length_append] at h2
    exact Nat.succ.inj h2
  have hp := h3 ps.length p t (by rw [List.getElem?_append_right (Nat.le_refl _), Nat.sub_self]; rfl) (by rw [hl, List.getElem?_append_right (Nat.le_refl _), Nat.sub_self]; rfl)
  have nc : ∀ {q : Addr} {xs : List V}, H q = some (.tup xs) → q ≠ c := fun e z => by rw [z, h1] at e; cases e
  refine ⟨ps, p, h1, hp, nc hp, ps, upd_same, hl, fun i q t' a b => ?_⟩
  have hi : i < ps.length := (List.getElem?_eq_some_iff.mp a).1
  have := h3 i q t' (by rw [List.getElem?_append_left hi]; exact a) (by rw [List.getElem?_append_left (by omega)]; exact b)
  rw [upd_ne (nc this)]
  exact this
/-- an entry of the stack: a window at its own place -/
structure SEn where
  i : Nat
  x : Int
  y : Int
  j : Nat
def SEn.tp (e : SEn) : List V := [.int (e.i : Nat), .int e.x, .int e.y]
def SEn.cells (f : Pl) (e : SEn) : List (Int × Int × Nat) := cellsQ (win f e.j e.x e.y) e.j e.x e.y
def stkCells (f : Pl) (St : List SEn) : List (Int × Int × Nat) := St.flatMap (SEn.cells f)
def stkW (St : List SEn) : Nat := (St.map fun e => 5 ^ e.j).sum
theorem stkCells_snoc (f : Pl) (St : List SEn) (e : SEn) : stkCells f (St ++ [e]) = stkCells f St ++ e.cells f := by
  unfold stkCells
  rw [List.flatMap_append, List.flatMap_cons, List.flatMap_nil, List.append_nil]
theorem stkW_snoc (St : List SEn) (e : SEn) : stkW (St ++ [e]) = stkW St + 5 ^ e.j := by
  unfold stkW
  rw [List.map_append, List.sum_append, List.map_cons, List.map_nil, List.sum_cons, List.sum_nil, Nat.add_zero]
/-- the four quarters of a window -/
def fourE (i0 i1 i2 i3 : Nat) (x y : Int) (j : Nat) : List SEn := [⟨i0, x, y, j⟩, ⟨i1, x + p2 j, y, j⟩, ⟨i2, x, y + p2 j, j⟩, ⟨i3, x + p2 j, y + p2 j, j⟩]
theorem fourE_cells (f : Pl) (i i0 i1 i2 i3 : Nat) (x y : Int) (j : Nat) : stkCells f (fourE i0 i1 i2 i3 x y j) = SEn.cells f ⟨i, x, y, j + 1⟩ := by
  show cellsQ (win f j x y) j x y ++ (cellsQ (win f j (x + p2 j) y) j (x + p2 j) y ++ (cellsQ (win f j x (y + p2 j)) j x (y + p2 j) ++ (cellsQ (win f j (x + p2 j) (y + p2 j)) j (x + p2 j) (y + p2 j) ++ []))) = _
  rw [List.append_nil]
  rfl
theorem fourE_W (i0 i1 i2 i3 : Nat) (x y : Int) (j : Nat) : stkW (fourE i0 i1 i2 i3 x y j) < 5 ^ (j + 1) := by
  show 5 ^ j + (5 ^ j + (5 ^ j + (5 ^ j + 0))) < 5 ^ (j + 1)
  have : 0 < 5 ^ j := Nat.pow_pos (by decide)
  rw [Nat.pow_succ]
  omega
/-- a list of cells of a field, by rows -/
structure Listed (f : Pl) (L : List (Int × Int × Nat)) : Prop where
  mem : ∀ u v s, (u, v, s) ∈ L ↔ f u v = s ∧ s ≠ 0
  nd : L.Nodup
  ord : L.Pairwise fun p q => p.2.1 < q.2.1 ∨ (p.2.1 = q.2.1 ∧ p.1 ≤ q.1)
theorem Listed.unique {f : Pl} {L L' : List (Int × Int × Nat)} (h : Listed f L) (h' : Listed f L') : L = L' := by
  have p : L.Perm L' := (List.perm_ext_iff_of_nodup h.nd h'.nd).mpr fun ⟨u, v, s⟩ => (h.mem u v s).trans (h'.mem u v s).symm
  refine p.eq_of_pairwise (fun a b ha hb h1 h2 => ?_) h.ord h'.ord
  obtain ⟨u, v, s⟩ := a
  obtain ⟨u', v', s'⟩ := b
  obtain ⟨e1, _⟩ := (h.mem u v s).mp ha
  obtain ⟨e2, _⟩ := (h'.mem u' v' s').mp hb
  have a1 : v = v' := by
    have h1 : v < v' ∨ (v = v' ∧ u ≤ u') := h1
    have h2 : v' < v ∨ (v' = v ∧ u' ≤ u) := h2
    omega
  have a2 : u = u' := by
    have h1 : v < v' ∨ (v = v' ∧ u ≤ u') := h1
    have h2 : v' < v ∨ (v' = v ∧ u' ≤ u) := h2
    omega
  subst a1 a2
  rw [← e1, ← e2]
section
variable {P : Program} {w : World} {K : PySem.W.Frag} {mg : Str → Option Value} {base : Heap} {S : Q → Prop}
theorem sc_by_rows : FnScope [("cell" : Str)] ["cell"] (defScope s_by_rows) := ⟨rfl, rfl, rfl, by decide +kernel, rfl, by decide +kernel, by decide +kernel⟩
theorem ok_by_rows (T : Txt K mg) : Ok P w K mg base ("by_rows", none) ["cell"] 1 spByRows := by
  refine Ok.of T.d_by_rows sc_by_rows (fun vs H Q E h => ?_) (fun cdv A outer s H vs Q E hr h => ?_)
  · obtain ⟨t, x, y, s, rfl, _⟩ := h
    rfl
  obtain ⟨t, x, y, s, rfl, ht, q⟩ := h
  refine ⟨_, (pss_one (ps_ret (pe_tup (pa_cons (pe_ix ix_tup (pv 0) pe_int (fun _ _ => rfl)) (pa_cons (pe_ix ix_tup (pv 0) pe_int (fun _ _ => rfl)) pa_nil))))), ?_⟩
  refine ⟨_, rfl, _, _, _, _, rfl, rfl, SqT.of ht, rfl, _, rfl, _, _, _, _, rfl, rfl, SqT.of ht, rfl, (by show 2 ≤ sizeLine; decide), fun p hp => ?_⟩
  exact q p _ (same_new hp _) upd_same
end
end Jf
/-! JfB4 -/
set_option autoImplicit true
/-! painted. -/
namespace Jf
open PySem PySem.Spec PyProof.Rows L2 NdefX
theorem eqv4 (a b c d a' b' c' d' : Int) : PyData.eqv (.tuple [.int a, .int b, .int c, .int d]) (.tuple [.int a', .int b', .int c', .int d']) = (decide (a = a') && (decide (b = b') && (decide (c = c') && decide (d = d')))) := by
  have e : PyData.eqv (.tuple [.int a, .int b, .int c, .int d]) (.tuple [.int a', .int b', .int c', .int d']) = ((a == a') && ((b == b') && ((c == c') && ((d == d') && true)))) := by rfl
  rw [e, Bool.and_true]
  rfl
theorem shapedT4 (a b c d : Int) : SeqAt.shaped (.tuple [.int a, .int b, .int c, .int d]) = true := by rfl
/-- how things stand while it is painted -/
structure PI (P : Program) (w0 : World) (K : PySem.W.Frag) (S : Q → Prop) (g d : Addr) (st : Nat) (BX BY : Int) (w : GWd) (O0 : Hp) (w' : GWd) (O' H' : Hp) : Prop where
  gv : GV K S g w' O' H'
  ex : ExC w w'
  sx : SameX d O0 O'
  nj : ∃ xs, NJ P w0 w' O' d st BX BY xs
section
variable {P : Program} {w0 : World} {K : PySem.W.Frag} {S : Q → Prop} {g d : Addr} {st : Nat} {BX BY : Int} {w w' w2 : GWd} {O0 O' H' O2 H2 : Hp}
theorem PI.sub (h : PI P w0 K S g d st BX BY w O0 w' O' H') {a : Addr} {o : HO} (e : O' a = some o) : H' a = some o := by
  obtain ⟨s, G⟩ := h.gv
  exact G.sub e
theorem PI.ob (h : PI P w0 K S g d st BX BY w O0 w' O' H') : ∃ (dx : Addr) (s : GS), O' g = some (.ins (CG K) dx (gfs s)) ∧ H' g = some (.ins (CG K) dx (gfs s)) := by
  obtain ⟨s, G⟩ := h.gv
  obtain ⟨dx, e⟩ := G.ob
  exact ⟨dx, _, e, G.sub e⟩
theorem PI.dict (h : PI P w0 K S g d st BX BY w O0 w' O' H') : ∃ xs, O' d = some (NDO P w0 d xs) := by
  obtain ⟨xs, nj⟩ := h.nj
  exact ⟨xs, nj.nd.at_⟩
theorem PI.free (h : PI P w0 K S g d st BX BY w O0 w' O' H') {p : Addr} (e : H' p = none) : O' p = none ∧ O0 p = none ∧ d ≠ p := by
  obtain ⟨kv, hd⟩ := h.dict
  have nd : d ≠ p := ne_of_none (h.sub hd) e
  have f : O' p = none := by
    obtain ⟨s, G⟩ := h.gv
    exact G.fresh e
  refine ⟨f, ?_, nd⟩
  cases c : O0 p with
  | none => rfl
  | some o =>
    have := h.sx p o (Ne.symm nd) c
    rw [f] at this
    cases this
theorem PI.new (h : PI P w0 K S g d st BX BY w O0 w' O' H') {p : Addr} (e : H' p = none) (o : HO) : PI P w0 K S g d st BX BY w O0 w' (upd O' p o) (upd H' p o) := by
  obtain ⟨f, f0, nd⟩ := h.free e
  obtain ⟨s, G⟩ := h.gv
  obtain ⟨xs, nj⟩ := h.nj
  exact ⟨⟨s, G.new e o⟩, h.ex, fun b u n q => by rw [upd_ne (show b ≠ p from ne_of_none q f0)]; exact h.sx b u n q, xs, nj.mono (ExC.refl _) (upd_ne nd) fun c ys q => by rw [upd_ne (ne_of_none q f)]; exact q⟩
theorem PI.mut (h : PI P w0 K S g d st BX BY w O0 w' O' H') {M : Addr} {l : List V} (f0 : O0 M = none) (e : O' M = some (.lst l)) (o : HO) : PI P w0 K S g d st BX BY w O0 w' (upd O' M o) (upd H' M o) := by
  obtain ⟨s, G⟩ := h.gv
  obtain ⟨xs, nj⟩ := h.nj
  obtain ⟨dx, hg⟩ := G.ob
  have nd : d ≠ M := fun z => by
    have := nj.nd.at_
    rw [z, e] at this
    cases this
  have ng : M ≠ g := fun z => by rw [← z, e] at hg; cases hg
  exact ⟨⟨s, G.mut e ng (fun xs z => by cases z) o⟩, h.ex, fun b u n q => by rw [upd_ne (show b ≠ M from ne_of_none q f0)]; exact h.sx b u n q, xs, nj.mono (ExC.refl _) (upd_ne nd) fun c ys q => by rw [upd_ne (fun z => by rw [z, e] at q; cases q)]; exact q⟩
theorem PI.grove (h : PI P w0 K S g d st BX BY w O0 w' O' H') (G2 : GV K S g w2 O2 H2) (x : ExC w' w2) (m : Same O' O2) : PI P w0 K S g d st BX BY w O0 w2 O2 H2 := by
  obtain ⟨xs, nj⟩ := h.nj
  exact ⟨G2, h.ex.trans x, h.sx.trans (Same.x m d), xs, nj.mono x (by rw [m _ _ nj.nd.at_, nj.nd.at_]) fun c ys q => m _ _ q⟩
theorem PI.trans (h : PI P w0 K S g d st BX BY w O0 w' O' H') (j : PI P w0 K S g d st BX BY w' O' w2 O2 H2) : PI P w0 K S g d st BX BY w O0 w2 O2 H2 := ⟨j.gv, h.ex.trans j.ex, h.sx.trans j.sx, j.nj⟩
end
def spInside (K : PySem.W.Frag) (S : Q → Prop) (g : Addr) (st : Nat) : List (Option V) → Sp := fun ws vs H Qk _ => ws = [some (.ref g), some (.int (st : Nat))] ∧ ∃ (w : GWd) (O : Hp) (i j : Nat), vs = [.int (i : Nat)] ∧ GV K S g w O H ∧ w.cs[i]? = some (solid j 0) ∧ j ≤ 48 ∧ st ≤ 7 ∧ Gives K S g w O (solid j st) Qk
def spOutside : List (Option V) → Sp := fun _ vs H Qk _ => ∃ i : Int, vs = [.int i] ∧ Qk (.int i) H
/-- the two functions that are handed over -/
structure Two (P : Program) (w0 : World) (K : PySem.W.Frag) (mg : Str → Option Value) (base : Heap) (S : Q → Prop) (g : Addr) (st : Nat) (fI fO : Addr) (FI FO : NF) : Prop where
  i : NOk P w0 K mg base CX0 6 fI FI ["square"] ["grove", "state"] (spInside K S g st)
  o : NOk P w0 K mg base CX0 6 fO FO ["square"] [] spOutside
  cl : FO.cl = []
def spPainted (P : Program) (w0 : World) (K : PySem.W.Frag) (S : Q → Prop) (g d : Addr) (st : Nat) (BX BY : Int) (fI fO : Addr) (FI FO : NF) (n : Nat) : Sp := fun vs H Qk _ => ∃ (w : GWd) (O : Hp) (i j : Nat) (bp : Addr) (b : Bx) (f : Pl) (X Y : Int), vs = [.ref g, .int (i : Nat), .ref bp, .ref fI, .ref fO, .ref d] ∧ PI P w0 K S g d st BX BY w O w O H ∧ w.cs[i]? = some (solid j 0) ∧ j < n ∧ j ≤ 48 ∧
  O bp = some (.tup (bxT b)) ∧ O fI = some (FnO fI FI) ∧ O FI.c = some (LamX.CodeO FI.c FI.qual) ∧ O fO = some (FnO fO FO) ∧ O FO.c = some (LamX.CodeO FO.c FO.qual) ∧ st ≤ 7 ∧ (fI ≠ d ∧ FI.c ≠ d ∧ fO ≠ d ∧ FO.c ≠ d) ∧ al j X ∧ al j Y ∧ Fam S f ∧ BA j BX b.1 b.2.2.1 ∧ BA j BY b.2.1 b.2.2.2 ∧
  (∀ x y : Int, 0 ≤ x → x < p2 j → 0 ≤ y → y < p2 j → ind b st x y = f (X + x) (Y + y)) ∧
  ∀ (r : Nat) (w' : GWd) (O' H' : Hp), PI P w0 K S g d st BX BY w O w' O' H' → w'.cs[r]? = some (win f j X Y) → Qk (.int (r : Nat)) H'
section
variable {P : Program} {w : World} {K : PySem.W.Frag} {mg : Str → Option Value} {base : Heap} {S : Q → Prop}
theorem sc_painted : FnScope [("grove" : Str), ("square" : Str), ("box" : Str), ("inside" : Str), ("outside" : Str), ("known" : Str), ("size" : Str), ("part" : Str), ("key" : Str), ("half" : Str), ("made" : Str), ("k" : Str), ("quarter" : Str), ("place" : Str)] ["grove", "square", "box", "inside", "outside", "known"] (defScope s_painted) := ⟨rfl, rfl, rfl, by decide +kernel, rfl, by decide +kernel, by decide +kernel⟩
theorem ok_painted_step (T : Txt K mg) {g d : Addr} {st : Nat} {BX BY : Int} {fI fO : Addr} {FI FO : NF} (W2 : Two P w K mg base S g st fI fO FI FO) {n : Nat} {fd_painted : FuncData} (D : FunD K "painted" "painted" (defArgs s_painted) (defBody s_painted) (defScope s_painted) [] [] (He.fAd K ("painted", none)) fd_painted) (b_painted : Binds K fd_painted ["grove", "square", "box", "inside", "outside", "known"] [])
    (k_painted : PySem.W.keepIn K (.ref (He.fAd K ("painted", none))) = true)
    (PT : PtOk P w K mg base (n + 6) (He.fAd K ("painted", none)) fd_painted ["grove", "square", "box", "inside", "outside", "known"] FI.cl ["grove", "state"] [some (.ref g), some (.int (st : Nat))] (spPainted P w K S g d st BX BY fI fO FI FO n)) :
    PtOk P w K mg base (n + 6 + 1) (He.fAd K ("painted", none)) fd_painted ["grove", "square", "box", "inside", "outside", "known"] FI.cl ["grove", "state"] [some (.ref g), some (.int (st : Nat))] (spPainted P w K S g d st BX BY fI fO FI FO (n + 1)) := by
  obtain ⟨fd_Grove_level_of, G_Grove_level_of, b_Grove_level_of, k_Grove_level_of⟩ := ok_Grove_level_of (P := P) (w := w) (base := base) (S := S) T
  obtain ⟨fd_clipped, G_clipped, b_clipped, k_clipped⟩ := ok_clipped (P := P) (w := w) (base := base) T
  obtain ⟨fd_Grove_quarters, G_Grove_quarters, b_Grove_quarters, k_Grove_quarters⟩ := ok_Grove_quarters (P := P) (w := w) (base := base) (S := S) T
  obtain ⟨fd_Grove_joined, G_Grove_joined, b_Grove_joined, k_Grove_joined⟩ := ok_Grove_joined (P := P) (w := w) (base := base) (S := S) T
  refine ptOk_of D sc_painted (fun vs H Q E h => ?_) (fun cdv A outer s H vs Q E hr hC hnf h => ?_)
  · obtain ⟨w, O, i, j, bp, b, f, X, Y, rfl, _⟩ := h
    rfl
  obtain ⟨w1, O, i, j, bp, b, f, X, Y, rfl, I0, hi, hjn, h48, hbp, hfI, hcI, hfO, hcO, h7, hne, aX, aY, hF, bX, bY, hind, q⟩ := h
  have hu64 := hr.units
  have Fin := W2.i
  have Fout := W2.o
  have Cout : NdefX.CellsAt FO.cl [] [] s.heap H := ⟨rfl, fun y c e => (by rw [W2.cl] at e; cases e), fun x y c e => (by rw [W2.cl] at e; cases e), fun i y e => (by cases e)⟩
  have nfo : ∀ y c, FO.cl.lookup y = some c → c ∉ frs outer := fun y c e => by rw [W2.cl] at e; cases e
  obtain ⟨dx, s0, hg, hg'⟩ := I0.ob
  have pj := p2_pos j
  refine ⟨_, (pss_cons (ps_set (i := 6) sc_painted.nd rfl (Or.inl rfl) (pe_op op_shl pe_int (pe_meth (pv 0) T.c_Grove T.m_Grove_level_of G_Grove_level_of (hr.mono (by omega)) b_Grove_level_of .nil pass0 (pa_cons (pv 1) pa_nil))))
      (pss_cons (ps_set (i := 7) sc_painted.nd rfl (Or.inl rfl) (pe_call G_clipped (hr.mono (by omega)) (by rfl) T.g_clipped k_clipped b_clipped .nil pass0 (pa_cons (pv 2) (pa_cons (pv 6) pa_nil))))
      (pss_cons (ps_if (pt_cmpR op_isN (pv 7) pe_non (nomark _)) (pss_one (ps_ret (pe_clo (i := 4) (x := ("outside" : Str)) Fout (hr.mono (by omega)) Cout nfo rfl rfl (Or.inl rfl) (pa_cons (pv 1) pa_nil)))) pss_nil)
      (pss_cons (ps_if (pt_cmpR (op_eqD hu64) (pv 7) (pe_tup (pa_cons pe_int (pa_cons pe_int (pa_cons (pv 6) (pa_cons (pv 6) pa_nil))))) (nomark _)) (pss_one (ps_ret (pe_clo (i := 3) (x := ("inside" : Str)) Fin (hr.mono (by omega)) hC hnf rfl rfl (Or.inl rfl) (pa_cons (pv 1) pa_nil)))) pss_nil)
      (pss_cons (ps_set (i := 8) sc_painted.nd rfl (Or.inl rfl) (pe_tup (pa_cons (pv 1) (pa_cons (pv 7) pa_nil))))
      (C8.pss_cut (ps_if (pt_cmp (pc_ndnot hu64 (pv 8) (pv 5))) (pss_cons (ps_set (i := 9) sc_painted.nd rfl (Or.inl rfl) (pe_op op_fdiv (pv 6) pe_int))
      (pss_cons (ps_set (i := 10) sc_painted.nd rfl (Or.inl rfl) (pe_lst pa_nil))
      (pss_cons (ps_for PassesOwn.never (by rfl) (pi_enumT (by rfl) T.f_enumerate (pa_cons (pe_meth (pv 0) T.c_Grove T.m_Grove_quarters G_Grove_quarters (hr.mono (by omega)) b_Grove_quarters .nil pass0 (pa_cons (pv 1) pa_nil)) pa_nil)) (pg_tup (by rfl) (pgs_cons (pg_name (i := 11) sc_painted.nd rfl (Or.inl rfl)) (pgs_cons (pg_name (i := 12) sc_painted.nd rfl (Or.inl rfl)) pgs_nil))) (pss_cons (ps_set (i := 13) sc_painted.nd rfl (Or.inl rfl) (pe_tup (pa_cons (pe_op op_sub (pe_ix ix_tup (pv 7) pe_int (fun _ _ => rfl)) (pe_op op_mul (pe_op op_mod (pv 11) pe_int) (pv 9))) (pa_cons (pe_op op_sub (pe_ix ix_tup (pv 7) pe_int (fun _ _ => rfl)) (pe_op op_mul (pe_op op_fdiv (pv 11) pe_int) (pv 9))) (pa_cons (pe_ix ix_tup (pv 7) pe_int (fun _ _ => rfl)) (pa_cons (pe_ix ix_tup (pv 7) pe_int (fun _ _ => rfl)) pa_nil))))))
      (pss_one (ps_expr (pe_bm PySem.F.plainAttrs_list PySem.F.slot_list_append PySem.F.type_list_append mt_append (pv 10) (pa_cons (pe_callPt PT (hr.mono (by omega)) (by rfl) T.g_painted k_painted b_painted hC hnf rfl (pa_cons (pv 0) (pa_cons (pv 12) (pa_cons (pv 13) (pa_cons (pv 3) (pa_cons (pv 4) (pa_cons (pv 5) pa_nil))))))) pa_nil))))))
      (pss_one (ps_ndput hu64 (pv 5) (pv 8) (pe_meth (pv 0) T.c_Grove T.m_Grove_joined G_Grove_joined (hr.mono (by omega)) b_Grove_joined .nil pass0 (pa_cons (pe_ix ix_list (pv 10) pe_int (fun _ _ => rfl)) (pa_cons (pe_ix ix_list (pv 10) pe_int (fun _ _ => rfl)) (pa_cons (pe_ix ix_list (pv 10) pe_int (fun _ _ => rfl)) (pa_cons (pe_ix ix_list (pv 10) pe_int (fun _ _ => rfl)) pa_nil))))) rfl))))) pss_nil)
      (pss_one (ps_ret (pe_ndget hu64 (pv 5) (pv 8) (fun _ _ => rfl)))))))))), ?_⟩
  refine ⟨_, rfl, g, dx, _, rfl, hg', by rfl, _, rfl, g, w1, O, i, _, rfl, I0.gv, hi, ?_⟩
  rw [lev_solid]
  refine ⟨_, _, rfl, rfl, shlC (by omega), ?_⟩
  dsimp only
  rw [shl1]
  refine ⟨_, rfl, _, rfl, bp, b, p2 j, rfl, I0.sub hbp, fun hn => ?_, fun c hc pt hpt => ?_⟩
  · -- nothing of the box is here
    refine ⟨_, rfl, rfl, _, rfl, iteT ⟨rfl, I0.sub hfO, _, rfl, I0.sub hfO, I0.sub hcO, i, rfl, ?_⟩⟩
    refine q i w1 O H I0 ?_
    rw [hi]
    refine congrArg some (win_solid fun x y h1 h2 h3 h4 => ?_).symm
    rw [← hind x y h1 h2 h3 h4]
    exact clip_none hn st ⟨h1, h2⟩ ⟨h3, h4⟩
  refine ⟨_, rfl, rfl, _, rfl, iteF ?_⟩
  have I1 := I0.new hpt (.tup (bxT c))
  have tpt : upd O pt (.tup (bxT c)) pt = some (.tup (bxT c)) := upd_same
  refine ⟨_, rfl, _, rfl, _, rfl, (by show 4 ≤ sizeLine; decide), fun u hu => ?_⟩
  have I2 := I1.new hu (.tup [.int 0, .int 0, .int (p2 j), .int (p2 j)])
  have npu : pt ≠ u := ne_of_none (I1.sub tpt) hu
  have tpt2 : upd (upd O pt (.tup (bxT c))) u (.tup [.int 0, .int 0, .int (p2 j), .int (p2 j)]) pt = some (.tup (bxT c)) := by rw [upd_ne npu]; exact tpt
  refine ⟨_, _, .tup (SqT.of (I2.sub tpt2)) (.cons (.int _) (.cons (.int _) (.cons (.int _) (.cons (.int _) .nil)))), .tup (SqT.of upd_same) (.cons (.int _) (.cons (.int _) (.cons (.int _) (.cons (.int _) .nil)))), shapedT4 _ _ _ _, shapedT4 _ _ _ _, _, rfl, ?_⟩
  rw [eqv4]
  have fnK : ∀ {w' O' H'}, PI P w K S g d st BX BY w1 O w' O' H' → O' fI = some (FnO fI FI) ∧ O' FI.c = some (LamX.CodeO FI.c FI.qual) ∧ O' fO = some (FnO fO FO) ∧ O' FO.c = some (LamX.CodeO FO.c FO.qual) := fun {w' O' H'} I => by
    exact ⟨I.sx _ _ hne.1 hfI, I.sx _ _ hne.2.1 hcI, I.sx _ _ hne.2.2.1 hfO, I.sx _ _ hne.2.2.2 hcO⟩
  have cind := fun (x y : Int) (h1 : 0 ≤ x) (h2 : x < p2 j) (h3 : 0 ≤ y) (h4 : y < p2 j) => clip_ind hc st ⟨h1, h2⟩ ⟨h3, h4⟩
  obtain ⟨⟨c1, c2, c3, c4⟩, c5, c6⟩ := clip_some hc
  by_cases full : c.1 = 0 ∧ c.2.1 = 0 ∧ c.2.2.1 = p2 j ∧ c.2.2.2 = p2 j
  · obtain ⟨f1, f2, f3, f4⟩ := full
    rw [decide_eq_true f1, decide_eq_true f2, decide_eq_true f3, decide_eq_true f4]
    obtain ⟨k1, k2, k3, k4⟩ := fnK I2
    refine iteT ⟨rfl, I2.sub k1, _, rfl, I2.sub k1, I2.sub k2, rfl, w1, _, i, j, rfl, I2.gv, hi, h48, h7, fun r w2 O2 H2 G2 x2 m2 hr2 => ?_⟩
    refine q r w2 O2 H2 (I2.grove G2 x2 m2) ?_
    rw [hr2]
    refine congrArg some (win_solid fun x y h1 h2 h3 h4 => ?_).symm
    rw [← hind x y h1 h2 h3 h4, ← cind x y h1 h2 h3 h4]
    exact if_pos (by omega)
  have fb : (decide (c.1 = 0) && (decide (c.2.1 = 0) && (decide (c.2.2.1 = p2 j) && decide (c.2.2.2 = p2 j)))) = false := by
    refine Bool.eq_false_iff.mpr fun z => full ?_
    simp only [Bool.and_eq_true, decide_eq_true_eq] at z
    exact z
  rw [fb]
  refine iteF ?_
  refine ⟨_, rfl, _, rfl, (by show 2 ≤ sizeLine; decide), fun kt hkt => ?_⟩
  have I3 := I2.new hkt (.tup [.int (i : Nat), .ref pt])
  have npk : pt ≠ kt := ne_of_none (I2.sub tpt2) hkt
  have ky3 : KeyAt (upd (upd (upd O pt (.tup (bxT c))) u (.tup [.int 0, .int 0, .int (p2 j), .int (p2 j)])) kt (.tup [.int (i : Nat), .ref pt])) kt (i : Int) c := ⟨pt, upd_same, by rw [upd_ne npk]; exact tpt2⟩
  have kB : KB BX BY (j, c) := by
    obtain ⟨a1, a2, a3⟩ := BA_key bX c1 c3 c5
    obtain ⟨a4, a5, a6⟩ := BA_key bY c2 c4 c6
    exact ⟨by show j < 49; omega, a1, a4, ⟨a2, a3⟩, a5, a6⟩
  have wres : win (ind c st) j 0 0 = win f j X Y := win_ext fun x y h1 h2 h3 h4 => by
    rw [Int.zero_add, Int.zero_add, cind x y h1 h2 h3 h4, hind x y h1 h2 h3 h4]
  -- the end
  have ndat : ∀ {w' O' H'}, PI P w K S g d st BX BY w1 O w' O' H' → KeyAt O' kt (i : Int) c → KeyAt H' kt (i : Int) c := fun I k => k.same fun c xs e => I.sub e
  have ndH : ∀ {w' O' H'} {xs}, PI P w K S g d st BX BY w1 O w' O' H' → NJ P w w' O' d st BX BY xs → NDict P w H' d xs := fun I nj => nj.nd.same (by rw [I.sub nj.nd.at_, nj.nd.at_]) fun c xs e => I.sub e
  refine ⟨fun σ' H' => ∃ (w' : GWd) (O' : Hp) (xs : List (NK × Addr × Value)) (p : Addr × Value) (v9 v10 v11 v12 v13 : Option V), σ' = [some (.ref g), some (.int (i : Nat)), some (.ref bp), some (.ref fI), some (.ref fO), some (.ref d), some (.int (p2 j)), some (.ref pt), some (.ref kt), v9, v10, v11, v12, v13] ∧ PI P w K S g d st BX BY w1 O w' O' H' ∧ NJ P w w' O' d st BX BY xs ∧ KeyAt O' kt (i : Int) c ∧ atKey xs (nkey (i : Int) c) = some p, ?_, ?_⟩
  · obtain ⟨xs3, nj3⟩ := I3.nj
    refine ⟨_, rfl, _, rfl, d, kt, xs3, _, c, rfl, rfl, ndH I3 nj3, ndat I3 ky3, _, rfl, ?_⟩
    cases hp : atKey xs3 (nkey (i : Int) c) with
    | some p => exact iteF ⟨w1, _, xs3, p, _, _, _, _, _, rfl, I3, nj3, ky3, hp⟩
    | none =>
      refine iteT ?_
      -- the quarters
      have j0 : j ≠ 0 := fun z => by
        subst z
        rw [p2_zero] at *
        exact full (by omega)
      obtain ⟨j, rfl⟩ : ∃ m, j = m + 1 := ⟨j - 1, by omega⟩
      have pjj := p2_pos j
      have ps := p2_succ j
      refine ⟨_, rfl, _, _, rfl, rfl, ⟨by decide, by decide⟩, ?_⟩
      dsimp only
      rw [show p2 (j + 1) / 2 = p2 j by omega]
      refine ⟨Nat.zero_le _, fun D hD => ?_⟩
      have I4 := I3.new hD (.lst [])
      obtain ⟨fD, fD0, ndD⟩ := I3.free hD
      obtain ⟨dx4, s4, hg4, hg4'⟩ := I4.ob
      have hi' : w1.cs[i]? = some (.node (solid j 0) (solid j 0) (solid j 0) (solid j 0)) := hi
      refine ⟨_, rfl, g, dx4, _, rfl, hg4', by rfl, _, rfl, g, w1, _, i, _, _, _, _, rfl, I4.gv, hi', fun pq i0 i1 i2 i3 eq z0 z1 z2 z3 => ?_⟩
      have hcsel : ∀ (m : Nat) x2, ([V.int (i0 : Nat), V.int (i1 : Nat), V.int (i2 : Nat), V.int (i3 : Nat)] : List V)[m]? = some x2 → ∃ a : Nat, x2 = .int (a : Nat) ∧ w1.cs[a]? = some (solid j 0) := fun m x2 h => by
        have hm : m < 4 := (List.getElem?_eq_some_iff.mp h).1
        rcases (show m = 0 ∨ m = 1 ∨ m = 2 ∨ m = 3 by omega) with rfl | rfl | rfl | rfl
        · exact ⟨i0, (Option.some.inj h).symm, z0⟩
        · exact ⟨i1, (Option.some.inj h).symm, z1⟩
        · exact ⟨i2, (Option.some.inj h).symm, z2⟩
        · exact ⟨i3, (Option.some.inj h).symm, z3⟩
      have tpt4 : upd (upd (upd (upd O pt (.tup (bxT c))) u (.tup [.int 0, .int 0, .int (p2 (j + 1)), .int (p2 (j + 1))])) kt (.tup [.int (i : Nat), .ref pt])) D (.lst []) pt = some (.tup (bxT c)) := by
        have e3 : upd (upd (upd O pt (.tup (bxT c))) u (.tup [.int 0, .int 0, .int (p2 (j + 1)), .int (p2 (j + 1))])) kt (.tup [.int (i : Nat), .ref pt]) pt = some (.tup (bxT c)) := by rw [upd_ne npk]; exact tpt2
        rw [upd_ne (ne_of_none e3 fD)]; exact e3
      have ky4 := ky3.same (H' := upd (upd (upd (upd O pt (.tup (bxT c))) u (.tup [.int 0, .int 0, .int (p2 (j + 1)), .int (p2 (j + 1))])) kt (.tup [.int (i : Nat), .ref pt])) D (.lst [])) fun c xs e => by rw [upd_ne (ne_of_none e fD)]; exact e
      refine ⟨pq, _, rfl, SqT.of (I4.sub eq), for_it (walk_enumT (K := K) (a := pq) (xs := [.int (i0 : Nat), .int (i1 : Nat), .int (i2 : Nat), .int (i3 : Nat)])) (fun n σ' H' => ∃ (w' : GWd) (O' : Hp) (B : List Nat) (v11 v12 v13 : Option V), σ' = [some (.ref g), some (.int (i : Nat)), some (.ref bp), some (.ref fI), some (.ref fO), some (.ref d), some (.int (p2 (j + 1))), some (.ref pt), some (.ref kt), some (.int (p2 j)), some (.ref D), v11, v12, v13] ∧
          PI P w K S g d st BX BY w1 O w' O' H' ∧ O' D = some (.lst (B.map fun j => V.int (j : Nat))) ∧ O' pt = some (.tup (bxT c)) ∧ KeyAt O' kt (i : Int) c ∧ O' pq = some (.tup [.int (i0 : Nat), .int (i1 : Nat), .int (i2 : Nat), .int (i3 : Nat)]) ∧ B.length = n ∧ IdsAt w' B (fun m => win f j (X + ((m % 2 : Nat) : Int) * p2 j) (Y + ((m / 2 : Nat) : Int) * p2 j)))
        ⟨w1, _, [], _, _, _, rfl, I4, upd_same, tpt4, ky4, eq, rfl, fun n j h => by cases h⟩ (fun n σ' H' _ ⟨w', O', B, _, _, _, _, I', _, _, _, hq, _⟩ => SqT.of (I'.sub hq)) ?_ ?_⟩
      · rintro n v σ' H' H'' hn ⟨w', O', B, v11, v12, v13, rfl, I', hB, hpt', ky', hq', eB, hBi⟩ ⟨t, x1, x2, rfl, ht, rfl, hx1, hx2⟩
        have hn4 : n < 4 := hn
        obtain rfl : V.int (n : Nat) = x1 := Option.some.inj hx1
        obtain ⟨a, rfl, ha⟩ := hcsel n x2 hx2
        have I5 := I'.new ht (.tup [.int (n : Nat), .int (a : Nat)])
        obtain ⟨fT, fT0, ndT⟩ := I'.free ht
        have hpt5 := same_new fT (.tup [.int (n : Nat), .int (a : Nat)]) _ _ hpt'
        have ptH : SqT K (upd H' t (.tup [.int (n : Nat), .int (a : Nat)])) pt (bxT c) := SqT.of (I5.sub hpt5)
        refine ⟨t, _, rfl, SqT.of upd_same, rfl, _, _, rfl, _, _, rfl, rfl, ?_⟩
        refine ⟨_, rfl, _, _, _, _, rfl, rfl, ptH, rfl, _, rfl, _, _, rfl, rfl, (by show (0 : Int) < 2; decide), _, rfl, _, _, rfl, rfl, .inl ⟨by omega, by omega⟩, _, _, rfl, rfl, ?_⟩
        refine ⟨_, rfl, _, _, _, _, rfl, rfl, ptH, rfl, _, rfl, _, _, rfl, rfl, ⟨by decide, by decide⟩, _, rfl, _, _, rfl, rfl, .inl ⟨by omega, by omega⟩, _, _, rfl, rfl, ?_⟩
        refine ⟨_, rfl, _, _, _, _, rfl, rfl, ptH, rfl, _, rfl, _, _, _, _, rfl, rfl, ptH, rfl, (by show 4 ≤ sizeLine; decide), fun pl hpl => ?_⟩
        have I6 := I5.new hpl (.tup (bxT (c.1 - ((n : Nat) : Int) % 2 * p2 j, c.2.1 - ((n : Nat) : Int) / 2 * p2 j, c.2.2.1, c.2.2.2)))
        obtain ⟨fP, fP0, ndP⟩ := I5.free hpl
        have hB6 := same_new fP (.tup (bxT (c.1 - ((n : Nat) : Int) % 2 * p2 j, c.2.1 - ((n : Nat) : Int) / 2 * p2 j, c.2.2.1, c.2.2.2))) _ _ (same_new fT (.tup [.int (n : Nat), .int (a : Nat)]) _ _ hB)
        refine ⟨_, rfl, .inl ⟨rfl, _, SqL.of (I6.sub hB6)⟩, _, rfl, _, rfl, _, rfl, _, rfl, _, rfl, _, rfl, ?_⟩
        obtain ⟨k1, k2, k3, k4⟩ := fnK I6
        have em : ((n : Nat) : Int) % 2 = ((n % 2 : Nat) : Int) := by omega
        have ed : ((n : Nat) : Int) / 2 = ((n / 2 : Nat) : Int) := by omega
        have n2 : n % 2 = 0 ∨ n % 2 = 1 := by omega
        have nd2 : n / 2 = 0 ∨ n / 2 = 1 := by omega
        have mul01 : ∀ m : Nat, m = 0 ∨ m = 1 → ((m : Nat) : Int) * p2 j = 0 ∨ ((m : Nat) : Int) * p2 j = p2 j := fun m h => by
          rcases h with rfl | rfl
          · left; exact Int.zero_mul _
          · right; exact Int.one_mul _
        have mx := mul01 _ n2
        have my := mul01 _ nd2
        have al1 : ∀ {Z : Int} (m : Nat), al (j + 1) Z → al j (Z + ((m : Nat) : Int) * p2 j) := fun m h => al_add (al_down (by omega) h) (al_mul (al_p2 (by omega)) _)
        have bX' := BA_down (n := ((n % 2 : Nat) : Int)) bX c1 c3 c5 (by omega)
        have bY' := BA_down (n := ((n / 2 : Nat) : Int)) bY c2 c4 c6 (by omega)
        refine ⟨w', _, a, j, pl, _, f, X + ((n % 2 : Nat) : Int) * p2 j, Y + ((n / 2 : Nat) : Int) * p2 j, rfl, ⟨I6.gv, ExC.refl _, SameX.refl _ _, I6.nj⟩, I'.ex _ _ ha, by omega, by omega, upd_same, k1, k2, k3, k4, h7, hne, al1 _ aX, al1 _ aY, hF, by rw [em]; exact bX', by rw [ed]; exact bY', fun x y h1 h2 h3 h4 => ?_, fun r w7 O7 H7 I7 hr7 => ?_⟩
        · rw [em, ed]
          have e1 : ind (c.1 - ((n % 2 : Nat) : Int) * p2 j, c.2.1 - ((n / 2 : Nat) : Int) * p2 j, c.2.2.1, c.2.2.2) st x y = ind c st (((n % 2 : Nat) : Int) * p2 j + x) (((n / 2 : Nat) : Int) * p2 j + y) := ind_congr (by simp only; omega)
          rw [e1, cind _ _ (by omega) (by omega) (by omega) (by omega), hind _ _ (by omega) (by omega) (by omega) (by omega), Int.add_assoc, Int.add_assoc]
        · have I8 := I6.trans I7
          have nDd : D ≠ d := Ne.symm ndD
          have hD7 := I7.sx _ _ nDd hB6
          refine ⟨D, _, _, rfl, rfl, I8.sub hD7, by rw [List.length_map, eB]; exact small1000 (by omega), ?_⟩
          have I9 := I8.mut fD0 hD7 (.lst ((B ++ [r]).map fun j => V.int (j : Nat)))
          rw [List.map_append] at I9
          have tk : ∀ q ys, O' q = some (.tup ys) → upd O7 D (.lst (B.map (fun j => V.int (j : Nat)) ++ [.int (r : Nat)])) q = some (.tup ys) := fun q ys e => by
            have e1 := same_new fP (.tup (bxT (c.1 - ((n : Nat) : Int) % 2 * p2 j, c.2.1 - ((n : Nat) : Int) / 2 * p2 j, c.2.2.1, c.2.2.2))) _ _ (same_new fT (.tup [.int (n : Nat), .int (a : Nat)]) _ _ e)
            have e2 := I7.sx _ _ (fun z => by
              obtain ⟨ys', e'⟩ := I6.dict
              rw [z, e'] at e1
              cases e1) e1
            rw [upd_ne (fun z => by rw [z, hD7] at e2; cases e2)]
            exact e2
          exact ⟨w7, _, B ++ [r], _, _, _, rfl, I9, by rw [upd_same, List.map_append], tk _ _ hpt', ky'.same tk, tk _ _ hq', by rw [List.length_append, eB]; rfl, (hBi.mono I7.ex).snoc (by rw [hr7, eB])⟩
      · rintro σ' H' ⟨w', O', B, v11, v12, v13, rfl, I', hB, hpt', ky', hq', eB, hBi⟩
        have eB : B.length = 4 := eB
        obtain ⟨dx', s', hg', hg''⟩ := I'.ob
        have sel : ∀ n : Nat, n < 4 → ∃ r : Nat, atI (B.map fun j => V.int (j : Nat)) (n : Int) = some (.int (r : Nat)) ∧ w'.cs[r]? = some (win f j (X + ((n % 2 : Nat) : Int) * p2 j) (Y + ((n / 2 : Nat) : Int) * p2 j)) := fun n hn => by
          have hrL : n < B.length := by omega
          exact ⟨B[n], atI_nat (by rw [List.getElem?_map, List.getElem?_eq_getElem hrL]; rfl), hBi n _ (List.getElem?_eq_getElem hrL)⟩
        obtain ⟨r0, a0, b0⟩ := sel 0 (by omega)
        obtain ⟨r1, a1, b1⟩ := sel 1 (by omega)
        obtain ⟨r2, a2, b2⟩ := sel 2 (by omega)
        obtain ⟨r3, a3, b3⟩ := sel 3 (by omega)
        have ml := SqL.of (K := K) (I'.sub hB)
        have ew : win f (j + 1) X Y = .node (win f j (X + ((0 % 2 : Nat) : Int) * p2 j) (Y + ((0 / 2 : Nat) : Int) * p2 j)) (win f j (X + ((1 % 2 : Nat) : Int) * p2 j) (Y + ((1 / 2 : Nat) : Int) * p2 j)) (win f j (X + ((2 % 2 : Nat) : Int) * p2 j) (Y + ((2 / 2 : Nat) : Int) * p2 j)) (win f j (X + ((3 % 2 : Nat) : Int) * p2 j) (Y + ((3 / 2 : Nat) : Int) * p2 j)) := by
          rw [win_succ]
          refine node_congr ?_ ?_ ?_ ?_ <;> refine win_at ?_ ?_ <;> simp
        have wn : ∀ x y x' y', wf (lev (win f j x y)) (win f j x' y') := fun x y x' y' => by rw [lev_win]; exact wf_win f j x' y'
        refine ⟨_, rfl, g, dx', _, rfl, hg'', by rfl, _, rfl, D, _, _, _, rfl, rfl, ml, a0, _, rfl, D, _, _, _, rfl, rfl, ml, a1, _, rfl, D, _, _, _, rfl, rfl, ml, a2, _, rfl, D, _, _, _, rfl, rfl, ml, a3, ?_⟩
        refine ⟨g, w', O', r0, r1, r2, r3, _, _, _, _, rfl, I'.gv, b0, b1, b2, b3, wn _ _ _ _, wn _ _ _ _, wn _ _ _ _, by rw [lev_win]; omega, by rw [← ew]; exact hF (j + 1) X Y h48 aX aY, fun r w2 O2 H2 G2 _ x2 m2 hr2 => ?_⟩
        rw [← ew] at hr2
        have I7 := I'.grove G2 x2 m2
        have ky7 := ky'.same fun c xs e => m2 _ _ e
        obtain ⟨xs7, nj7⟩ := I7.nj
        refine ⟨_, rfl, _, rfl, d, kt, xs7, _, c, rfl, rfl, ndH I7 nj7, ndat I7 ky7, nj7.room, fun uv ru => ?_⟩
        have nd7 : w2.cs.Nodup := by
          obtain ⟨s7, G7⟩ := I7.gv
          exact G7.cnd
        have nj8 := nj7.put nd7 (I7.ex _ _ hi) ky7 kB ru (by rw [wres]; exact hr2)
        have I8 : PI P w K S g d st BX BY w1 O w2 (upd O2 d (NDO P w d (storedH xs7 (nkey (i : Int) c) kt uv))) (upd H2 d (NDO P w d (storedH xs7 (nkey (i : Int) c) kt uv))) := by
          obtain ⟨s7, G7⟩ := I7.gv
          obtain ⟨dx7, hg7⟩ := G7.ob
          refine ⟨⟨s7, G7.mut nj7.nd.at_ (fun z => ?_) (fun xs z => by cases z) _⟩, I7.ex, fun b o n e => by rw [upd_ne n]; exact I7.sx b o n e, _, nj8⟩
          have := nj7.nd.at_
          rw [z, hg7] at this
          cases this
        have some8 : (atKey (storedH xs7 (nkey (i : Int) c) kt uv) (nkey (i : Int) c)).isSome = true := atKey_kept (.inr rfl)
        obtain ⟨p8, hp8⟩ := Option.isSome_iff_exists.mp some8
        refine ⟨w2, _, _, p8, _, _, _, _, _, rfl, I8, nj8, ky7.same fun q ys e => ?_, hp8⟩
        rw [upd_ne (fun z => by
          have := nj7.nd.at_
          rw [z, this] at e
          cases e)]
        exact e
  · rintro σ' H' ⟨w', O', xs, p, v9, v10, v11, v12, v13, rfl, I', nj, ky, hp⟩
    obtain ⟨r, hr1, hr2⟩ := nj.hit (I'.ex _ _ hi) hp
    refine ⟨_, rfl, _, rfl, d, kt, xs, _, c, p, .int (r : Nat), rfl, rfl, ndH I' nj, ndat I' ky, hp, hr1, ?_⟩
    rw [wres] at hr2
    exact q r w' O' H' I' hr2
end
end Jf
/-! JfB5 -/
set_option autoImplicit true
/-! painted; the two made functions of filled. -/
namespace Jf
open PySem PySem.Spec PyProof.Rows L2 NdefX
section
variable {P : Program} {w : World} {K : PySem.W.Frag} {mg : Str → Option Value} {base : Heap} {S : Q → Prop}
theorem ok_painted (T : Txt K mg) : ∃ fd, Binds K fd ["grove", "square", "box", "inside", "outside", "known"] [] ∧ PySem.W.keepIn K (.ref (He.fAd K ("painted", none))) = true ∧
    ∀ {g d : Addr} {st : Nat} {BX BY : Int} {fI fO : Addr} {FI FO : NF}, Two P w K mg base S g st fI fO FI FO → ∀ n, PtOk P w K mg base (n + 6) (He.fAd K ("painted", none)) fd ["grove", "square", "box", "inside", "outside", "known"] FI.cl ["grove", "state"] [some (.ref g), some (.int (st : Nat))] (spPainted P w K S g d st BX BY fI fO FI FO n) := by
  obtain ⟨fd, D, b⟩ := T.d_painted
  refine ⟨fd, b, D.kp, fun {g d st BX BY fI fO FI FO} W2 n => ?_⟩
  induction n with
  | zero =>
    have no : ∀ vs H Q E, ¬ spPainted P w K S g d st BX BY fI fO FI FO 0 vs H Q E := fun vs H Q E h => by
      obtain ⟨w, O, i, j, bp, b, f, X, Y, _, _, _, hj, _⟩ := h
      omega
    exact ⟨fun vs H Q E h => absurd h (no vs H Q E), fun A outer s H args us vs Q E _ _ _ _ _ _ h => absurd h (no vs H Q E)⟩
  | succ n ih => exact ok_painted_step T W2 D b D.kp ih
end
/-! ### the defs within filled -/
abbrev s_inside : Stmt := (defBody s_filled).getD 5 (.Pass ⟨0, 0, 0, 0⟩)
abbrev s_outside : Stmt := (defBody s_filled).getD 6 (.Pass ⟨0, 0, 0, 0⟩)
theorem nsc_inside : NScope ["square", "grove", "state"] ["square"] ["grove", "state"] (C8.fnScope s_inside) := nscope_by (by decide +kernel)
theorem nsc_outside : NScope ["square"] ["square"] [] (C8.fnScope s_outside) := nscope_by (by decide +kernel)
section
variable {P : Program} {w : World} {K : PySem.W.Frag} {mg : Str → Option Value} {base : Heap} {S : Q → Prop}
theorem nok_inside (T : Txt K mg) {g f c : Addr} {st : Nat} {cl : List (Str × Addr)} {q : Str} : NOk P w K mg base CX0 6 f (NF.of s_inside "inside" q cl c) ["square"] ["grove", "state"] (spInside K S g st) := by
  obtain ⟨fd_Grove_solid, G_Grove_solid, b_Grove_solid, k_Grove_solid⟩ := ok_Grove_solid (P := P) (w := w) (base := base) (S := S) T
  obtain ⟨fd_Grove_level_of, G_Grove_level_of, b_Grove_level_of, k_Grove_level_of⟩ := ok_Grove_level_of (P := P) (w := w) (base := base) (S := S) T
  refine nok_of nsc_inside (fun doc pm ctv us hl => match us, hl with | [_], _ => rfl) (fun ws vs H Q E h => ?_) (fun A outer s H vs ws Q E hr hf hc hl h => ?_)
  · obtain ⟨_, w, O, i, j, rfl, _⟩ := h
    rfl
  obtain ⟨rfl, w1, O, i, j, rfl, ⟨s1, G⟩, hi, h48, h7, q⟩ := h
  obtain ⟨dx, hg⟩ := G.ob
  refine ⟨_, pss_one (ps_ret (pe_meth (pv 1) T.c_Grove T.m_Grove_solid G_Grove_solid (hr.mono (by omega)) b_Grove_solid .nil pass0 (pa_cons (pe_meth (pv 1) T.c_Grove T.m_Grove_level_of G_Grove_level_of (hr.mono (by omega)) b_Grove_level_of .nil pass0 (pa_cons (pv 0) pa_nil)) (pa_cons (pv 2) pa_nil)))), ?_⟩
  refine ⟨_, rfl, g, dx, _, rfl, G.sub hg, by rfl, _, rfl, g, dx, _, rfl, G.sub hg, by rfl, _, rfl, g, w1, O, i, _, rfl, ⟨s1, G⟩, hi, _, rfl, g, w1, O, j, st, by rw [lev_solid]; rfl, ⟨s1, G⟩, h48, h7, q⟩
theorem nok_outside {f c : Addr} {cl : List (Str × Addr)} {q : Str} : NOk P w K mg base CX0 6 f (NF.of s_outside "outside" q cl c) ["square"] [] spOutside := by
  refine (nok_of (k := 0) nsc_outside (fun doc pm ctv us hl => match us, hl with | [_], _ => rfl) (fun ws vs H Q E h => ?_) (fun A outer s H vs ws Q E hr hf hc hl h => ?_)).mono (by omega)
  · obtain ⟨i, rfl, _⟩ := h
    rfl
  obtain ⟨i, rfl, q⟩ := h
  have e0 : ws = [] := List.eq_nil_of_length_eq_zero hl
  subst e0
  exact ⟨_, pss_one (ps_ret (pv 0)), _, rfl, q⟩
end
end Jf
/-! JfB6 -/
set_option autoImplicit true
/-! filled: rules. -/
namespace Jf
open PySem PySem.Spec PyProof.Rows L2 NdefX
section
variable {X : Cx} {k : Nat} {f : Addr} {fd : FuncData} {ps : List Str} {cl : List (Str × Addr)} {fr : List Str} {js : List Nat} {t : TA} {x : Str} {e : Expr} {es : List Expr} {p pos : Pos}
theorem caps_nofr (cp : Caps X cl fr js) (hfn : ∀ y, X.fn y = true) {pins : List (Addr × Obj)} {σ : L2.St} {H : Hp} {s : Shared} (I : Inv X pins σ H s) : ∀ y c, cl.lookup y = some c → c ∉ frs X.stack := fun y c e m => by
  have hc := cp.sub y c e
  rcases List.mem_cons.mp (I.stkSub c m) with z | z
  · exact I.cne y c hc z
  · obtain ⟨_, o, ho, _⟩ := I.ok.funs.mem z
    exact absurd (Nat.lt_of_lt_of_le (Heap.lt_size ho) (I.ok.cab y c (hfn y) hc)) (Nat.lt_irrefl _)
def tCallPt (X : Cx) (k : Nat) (f : Addr) (fd : FuncData) (ps : List Str) (cl : List (Str × Addr)) (fr : List Str) (js : List Nat) (t : TA) : TE := fun σ H Q => t σ H fun vs H1 => ∃ sp, PtOk X.prog X.w X.K X.mg X.base k f fd ps cl fr (js.map (slotAt σ)) sp ∧ sp vs H1 Q E0
theorem pe_callPtF (cp : X.Ok → Caps X cl fr js) (hfn : ∀ y, X.fn y = true) (hr : Room k X.A) (hg : L2.Gl X x) (hm : X.mg x = some (.ref f)) (hk : PySem.W.keepIn X.K (.ref f) = true) (hb : Binds X.K fd ps [])
    (ha : PA X (e :: es) t) (hdb : (x == ("__debug__" : Str)) = false := by decide) (he : starEach (e :: es) X.env = (false, eval e X.env) :: starEach es X.env := by rfl) (hpl : (backTo pos (starEach es X.env)).any (·.1) = false := by rfl) :
    PE X (.Call (.Name x p) (e :: es) [] pos) (tCallPt X k f fd ps cl fr js t) := by
  refine ⟨fun pins s σ H Q I h => ?_⟩
  refine wpAny_Call_Name_kw (ld_glob I hg hm ?_ hdb)
  refine PySem.W.callWith_K (h₀ := X.base) I.ok.mod.kin hk (thn (ha.run pos pins s σ H _ I h) fun us s1 ⟨vs, H1, I1, r, q⟩ => ⟨I1.kIn, ?_⟩) he hpl
  obtain ⟨sp, F, q⟩ := q
  show wpAny _ _ (call (.ref f) us) _ _ _
  exact run_pt F hr hb (cells_of I1 (cp I1.ok)) (caps_nofr (cp I1.ok) hfn I1) I1 r q
end
section
variable {K : PySem.W.Frag} {S : Q → Prop} {g : Addr} {w : GWd} {s : GS} {O H : Hp}
/-- behind what makes functions: all but the tables of code stands -/
theorem GVs.extN (G : GVs K S g w s O H) {H' : Hp} (e : LamX.ExtN H H') {T : List NTab} (t0 : TabsN T O) (t1 : TabsN T H') : ∃ O', GVs K S g w s O' H' ∧ LamX.ExtN O O' ∧ TabsN T O' ∧ ∀ a o, H a = none → H' a = some o → O' a = some o := by
  classical
  have bz : ∀ a, a ∈ ownL w s → ∃ o, H' a = some o ∧ H a = some o ∧ (∀ ps, o ≠ .tbl ps) ∧ (∀ φ, o ≠ .ext φ) := fun a m => by
    rcases G.busy m with ⟨l, q⟩ | ⟨l, q⟩ | ⟨l, q⟩ <;> exact ⟨_, e _ _ q (fun ps z => by cases z), q, (fun ps z => by cases z), fun φ z => by cases z⟩
  have keep : ∀ a o, O a = some o → (∀ ps, o ≠ .tbl ps) → (if a ∈ ownL w s then none else H' a) = some o := fun a o h n => by
    have m : a ∉ ownL w s := fun m => by rw [G.own a m] at h; cases h
    rw [if_neg m]
    exact e _ _ (G.sub h) n
  refine ⟨fun a => if a ∈ ownL w s then none else H' a, G.move (fun a n => if_neg n) (fun a m => if_pos m) (fun a m => ?_) (fun o h => ?_) (fun a xs h => ?_), fun a o h n => keep a o h n, fun p hp => ?_, fun a o h h' => ?_⟩
  · obtain ⟨o, h1, h2, _⟩ := bz a m
    rw [h1, h2]
  · obtain ⟨dx, hg⟩ := G.ob
    rw [hg] at h
    cases h
    exact keep g _ hg fun ps z => by cases z
  · exact keep a _ h fun ps z => by cases z
  · obtain ⟨ps, h1, h2, h3⟩ := t1 p hp
    refine ⟨ps, ?_, h2, fun pos cv hc => ?_⟩
    · show (if p.1 ∈ ownL w s then none else H' p.1) = _
      by_cases m : p.1 ∈ ownL w s
      · obtain ⟨o, z1, _, z2, _⟩ := bz _ m
        rw [h1] at z1
        exact absurd (Option.some.inj z1).symm (z2 ps)
      · rw [if_neg m]; exact h1
    · obtain ⟨c, e1, e2⟩ := h3 pos cv hc
      refine ⟨c, e1, ?_⟩
      show (if c ∈ ownL w s then none else H' c) = _
      by_cases m : c ∈ ownL w s
      · obtain ⟨o, z1, _, _, z2⟩ := bz _ m
        rw [e2] at z1
        exact absurd (Option.some.inj z1).symm (z2 _)
      · rw [if_neg m]; exact e2
  · show (if a ∈ ownL w s then none else H' a) = some o
    rw [if_neg (G.free h)]
    exact h'
end
end Jf
/-! JfB7 -/
set_option autoImplicit true
/-! filled. -/
namespace Jf
open PySem PySem.Spec PyProof.Rows L2 NdefX
def stLine : Stmt → Nat
  | .FunctionDef (pos := p) .. => p.line
  | _ => 0
def nmF (l _ : Nat) : Str := if l = stLine s_inside then "filled.<locals>.inside" else "filled.<locals>.outside"
abbrev tabF (K : PySem.W.Frag) : List NTab := [((He.cT K ("filled", none)).2, nmF)]
theorem nm_in : nmF 302 4 = ("filled" : Str) ++ Str.ofString ".<locals>." ++ "inside" := by decide +kernel
theorem nm_out : nmF 305 4 = ("filled" : Str) ++ Str.ofString ".<locals>." ++ "outside" := by decide +kernel
theorem nd_in : ndefB (defScope s_filled) (C8.fnScope s_inside) ["grove", "state"] = true := by decide +kernel
theorem nd_out : ndefB (defScope s_filled) (C8.fnScope s_outside) [] = true := by decide +kernel
theorem cw_zero (k : Nat) : cw zeroPl k = solid k 0 := (solid_win 0 k _ _).symm
theorem fam_zero {S : Q → Prop} (h : ∀ j s, j ≤ 48 → s ≤ 7 → S (solid j s)) : Fam S zeroPl := fun j x y hj _ _ => by
  have e : win zeroPl j x y = solid j 0 := (solid_win 0 j x y).symm
  rw [e]
  exact h j 0 hj (by omega)
theorem lies_sup {b : Bx} {st m : Nat} (h : lies b (p2 m) = true) : sup (ind b st) (m + 1) := fun x y e => by
  unfold lies at h
  simp only [Bool.and_eq_true, Bool.not_eq_true', Bool.or_eq_false_iff, decide_eq_false_iff_not, decide_eq_true_eq] at h
  have c : b.1 ≤ x ∧ x < b.1 + b.2.2.1 ∧ b.2.1 ≤ y ∧ y < b.2.1 + b.2.2.2 := Classical.byContradiction fun n => e (if_neg n)
  rw [show m + 1 - 1 = m from rfl]
  omega
def spFilled (K : PySem.W.Frag) (S : Q → Prop) : Sp := fun vs H Qk _ => ∃ (g : Addr) (w : GWd) (O : Hp) (i : Nat) (bp : Addr) (b : Bx) (st : Nat), vs = [.ref g, .int (i : Nat), .ref bp, .int (st : Nat)] ∧ GV K S g w O H ∧ w.cs[i]? = some (solid 1 0) ∧ O bp = some (.tup (bxT b)) ∧
  (1 ≤ b.2.2.1 ∧ b.2.2.1 ≤ 40) ∧ (1 ≤ b.2.2.2 ∧ b.2.2.2 ≤ 40) ∧ lies b LIM = true ∧ st ≤ 7 ∧ Fam S (ind b st) ∧ TabsN (tabF K) O ∧
  ∀ k', isF (ind b st) k' → ∀ (r : Nat) (w' : GWd) (O' H' : Hp), GV K S g w' O' H' → ExC w w' → LamX.ExtN O O' → TabsN (tabF K) O' → w'.cs[r]? = some (cw (ind b st) k') → Qk (.int (r : Nat)) H'
section
variable {P : Program} {w : World} {K : PySem.W.Frag} {mg : Str → Option Value} {base : Heap} {S : Q → Prop}
theorem sc_filled : FnScope [("grove" : Str), ("field" : Str), ("box" : Str), ("state" : Str), ("empty" : Str), ("inside" : Str), ("outside" : Str)] ["grove", "field", "box", "state"] (defScope s_filled) := ⟨rfl, rfl, rfl, by decide +kernel, rfl, by decide +kernel, by decide +kernel⟩
theorem ok_filled (T : Txt K mg) (hTB : LamX.TabB base mg (He.codeOf K ("filled", none)) (He.cT K ("filled", none)).2) : Ok P w K mg base ("filled", none) ["grove", "field", "box", "state"] 56 (spFilled K S) := by
  obtain ⟨fd_refuse_box, G_refuse_box, b_refuse_box, k_refuse_box⟩ := ok_refuse_box (P := P) (w := w) (base := base) T
  obtain ⟨fd_lies_within, G_lies_within, b_lies_within, k_lies_within⟩ := ok_lies_within (P := P) (w := w) (base := base) T
  obtain ⟨fd_Grove_leaf, G_Grove_leaf, b_Grove_leaf, k_Grove_leaf⟩ := ok_Grove_leaf (P := P) (w := w) (base := base) (S := S) T
  obtain ⟨fd_Grove_level_of, G_Grove_level_of, b_Grove_level_of, k_Grove_level_of⟩ := ok_Grove_level_of (P := P) (w := w) (base := base) (S := S) T
  obtain ⟨fd_widened, G_widened, b_widened, k_widened⟩ := ok_widened (P := P) (w := w) (base := base) (S := S) T
  obtain ⟨fd_trimmed, G_trimmed, b_trimmed, k_trimmed⟩ := ok_trimmed (P := P) (w := w) (base := base) (S := S) T
  obtain ⟨fd_from_corner, G_from_corner, b_from_corner, k_from_corner⟩ := ok_from_corner (P := P) (w := w) (base := base) (S := S) T
  obtain ⟨fd_painted, b_painted, k_painted, PT⟩ := ok_painted (P := P) (w := w) (base := base) (S := S) T
  obtain ⟨fd, F, bF⟩ := T.d_filled
  obtain ⟨oc, od, dV, kV, doc, pm, an, cdv, ct, osl, rfl, lk, hcd, _, _⟩ := F.ex
  obtain ⟨c, rfl⟩ : ∃ c, cdv = .ref c := by
    cases cdv with
    | ref c => exact ⟨c, rfl⟩
    | _ => cases hcd
  have hco : He.codeOf K ("filled", none) = c := He.codeOf_eq lk rfl
  refine ⟨_, fn_of lk hcd sc_filled (fun vs H Q E h => ?_) (fun A outer s H vs Q E hr h => ?_), bF, F.kp⟩
  · obtain ⟨g, w, O, i, bp, b, st, rfl, _⟩ := h
    rfl
  obtain ⟨g, w1, O, i, bp, b, st, rfl, ⟨s1, G⟩, hi, hbp, ⟨bw1, bw2⟩, ⟨bh1, bh2⟩, hlies, h7, hF, hT, q⟩ := h
  have huF : ∀ p ∈ tabF K, p.1 = (He.cT K ("filled", none)).2 → p.2 = nmF := fun p hp _ => by rw [List.mem_singleton.mp hp]
  have hcode : Value.ref c = Value.ref (He.codeOf K ("filled", none)) := by rw [hco]
  obtain ⟨dx, hg⟩ := G.ob
  refine ⟨_, PSs.nox (pss_cons (ps_expr (pe_call G_refuse_box (hr.mono (by omega)) (by rfl) T.g_refuse_box k_refuse_box b_refuse_box .nil pass0 (pa_cons (pv 2) pa_nil)))
      (pss_cons (ps_set (i := 4) sc_filled.nd rfl (Or.inl rfl) (pe_or (pe_cmpR op_eq (pe_ix ix_tup (pv 2) pe_int (fun _ _ => rfl)) pe_int (nomark _)) (pe_one (pe_cmpR op_eq (pe_ix ix_tup (pv 2) pe_int (fun _ _ => rfl)) pe_int (nomark _)))))
      (pss_cons (ps_if (PW.pt (pw_and (pt_not (pt_val (pv 4))) (pw_and1 (pt_not (pt_val (pe_call G_lies_within (hr.mono (by omega)) (by rfl) T.g_lies_within k_lies_within b_lies_within .nil pass0 (pa_cons (pv 2) (pa_cons (pe_glob (v := .int 1099511627776) (by rfl) T.i_LIMIT.choose_spec ⟨_, rfl⟩) pa_nil)))))))) (pss_one ps_never) pss_nil)
      (pss_cons (ps_expr (pe_meth (pv 0) T.c_Grove T.m_Grove_leaf G_Grove_leaf (hr.mono (by omega)) b_Grove_leaf .nil pass0 (pa_cons (pv 3) pa_nil)))
      (pss_cons (ps_if (pt_val (pv 4)) (pss_one (ps_ret (pv 1))) pss_nil)
      (pss_cons (ps_ndefMS (st := s_inside) (T := tabF K) (nm := nmF) (c := He.codeOf K ("filled", none)) (P := (He.cT K ("filled", none)).2) (name := "inside") (i := 5) rfl hTB hcode (List.mem_singleton.mpr rfl) nm_in huF (ndef_free nd_in) rfl rfl rfl sc_filled.nd rfl (Or.inl rfl) (Or.inl rfl))
      (pss_cons (ps_ndefMS (st := s_outside) (T := tabF K) (nm := nmF) (c := He.codeOf K ("filled", none)) (P := (He.cT K ("filled", none)).2) (name := "outside") (i := 6) rfl hTB hcode (List.mem_singleton.mpr rfl) nm_out huF (ndef_free nd_out) rfl rfl rfl sc_filled.nd rfl (Or.inl rfl) (Or.inl rfl))
      (pss_cons (ps_while PassesOwn.never (pt_not (pt_val (pe_call G_lies_within (hr.mono (by omega)) (by rfl) T.g_lies_within k_lies_within b_lies_within .nil pass0 (pa_cons (pv 2) (pa_cons (pe_op op_fdiv (pe_op op_shl pe_int (pe_meth (pv 0) T.c_Grove T.m_Grove_level_of G_Grove_level_of (hr.mono (by omega)) b_Grove_level_of .nil pass0 (pa_cons (pv 1) pa_nil))) pe_int) pa_nil))))) (pss_one (ps_set (i := 1) sc_filled.nd rfl (Or.inl rfl) (pe_call G_widened (hr.mono (by omega)) (by rfl) T.g_widened k_widened b_widened .nil pass0 (pa_cons (pv 0) (pa_cons (pv 1) pa_nil))))))
      (pss_one (ps_ret (pe_call G_trimmed (hr.mono (by omega)) (by rfl) T.g_trimmed k_trimmed b_trimmed .nil pass0 (pa_cons (pv 0) (pa_cons (pe_callPtF (k := 55) (fun ok => Caps.made ok (scope := C8.fnScope s_inside) (ndef_free nd_in) (ndef_fr nd_in) (js := [0, 3]) rfl) (fun _ => rfl) (hr.mono (by omega)) (by rfl) T.g_painted k_painted b_painted (pa_cons (pv 0) (pa_cons (pv 1) (pa_cons (pe_call G_from_corner (hr.mono (by omega)) (by rfl) T.g_from_corner k_from_corner b_from_corner .nil pass0 (pa_cons (pv 0) (pa_cons (pv 1) (pa_cons (pv 2) pa_nil)))) (pa_cons (pv 5) (pa_cons (pv 6) (pa_cons pe_ndnew pa_nil))))))) pa_nil))))))))))))), ?_⟩
  have nw : ¬ V.int b.2.2.1 = V.int 0 := fun z => by injection z with z; omega
  have nh : ¬ V.int b.2.2.2 = V.int 0 := fun z => by injection z with z; omega
  refine ⟨_, rfl, bp, b, rfl, G.sub hbp, by omega, by omega, ?_⟩
  refine ⟨_, rfl, _, _, _, _, rfl, rfl, SqT.of (G.sub hbp), rfl, rfl, _, rfl, ?_⟩
  rw [decide_eq_false nw]
  refine iteF ⟨_, rfl, _, _, _, _, rfl, rfl, SqT.of (G.sub hbp), rfl, rfl, ?_⟩
  rw [decide_eq_false nh]
  refine ⟨_, rfl, _, rfl, iteT ?_⟩
  refine ⟨_, rfl, bp, b, LIM, rfl, G.sub hbp, _, rfl, ?_⟩
  rw [hlies]
  refine iteF ?_
  refine ⟨_, rfl, g, dx, _, rfl, G.sub hg, by rfl, _, rfl, g, w1, O, st, rfl, ⟨s1, G⟩, h7, fun l w2 O2 H2 ⟨s2, G2⟩ _ x2 m2 _ => ?_⟩
  refine ⟨_, rfl, _, rfl, iteF ?_⟩
  -- the two functions
  have hT2 : TabsN (tabF K) O2 := hT.ext m2
  refine ⟨hT2.ext G2.same, fun fI cI H3 e3 nn3 T3 fI0 fI1 cI1 => ?_⟩
  obtain ⟨O3, G3, eO3, TO3, nw3⟩ := G2.extN e3 hT2 T3
  have kfI := nw3 _ _ fI0 fI1
  refine ⟨T3, fun fO cO H4 e4 nn4 T4 fO0 fO1 cO1 => ?_⟩
  obtain ⟨O4, G4, eO4, TO4, nw4⟩ := G3.extN e4 TO3 T4
  have kfO := nw4 _ _ fO0 fO1
  have next : ∀ {f : Addr} {F : NF}, ∀ ps, FnO f F ≠ .tbl ps := fun ps z => by cases z
  have kfI4 := eO4 _ _ kfI next
  have outC : ∀ {cc : Addr} {qq : Str}, H4 cc = some (LamX.CodeO cc qq) → O4 cc = some (LamX.CodeO cc qq) := fun {cc qq} h => by
    have n : cc ∉ ownL w2 s2 := fun m => by
      rcases G4.busy m with ⟨l, z⟩ | ⟨l, z⟩ | ⟨l, z⟩ <;> (rw [h] at z; cases z)
    rw [G4.out _ n]; exact h
  have kcI : O4 cI = some (LamX.CodeO cI (NF.of s_inside "inside" _ _ cI).qual) := outC (e4 _ _ cI1 fun ps z => by cases z)
  have kcO : O4 cO = some (LamX.CodeO cO (NF.of s_outside "outside" _ _ cO).qual) := outC cO1
  have hbp4 : O4 bp = some (.tup (bxT b)) := eO4 _ _ (eO3 _ _ (m2 _ _ hbp) fun ps z => by cases z) fun ps z => by cases z
  have eO : LamX.ExtN O O4 := (LamX.ExtN.of m2).trans (eO3.trans eO4)
  have hi4 := x2 _ _ hi
  -- wide enough
  refine ⟨fun μ σ' H' => ∃ (w5 : GWd) (O5 : Hp) (j m : Nat), σ' = [some (.ref g), some (.int (j : Nat)), some (.ref bp), some (.int (st : Nat)), some (.bl false), some (.ref fI), some (.ref fO)] ∧ GV K S g w5 O5 H' ∧ ExC w2 w5 ∧ Same O4 O5 ∧ w5.cs[j]? = some (solid (m + 1) 0) ∧ m ≤ 40 ∧ μ = 40 - m,
    ⟨_, w2, O4, i, 0, rfl, ⟨s2, G4⟩, ExC.refl _, Same.refl _, hi4, by omega, rfl⟩, ?_⟩
  rintro μ σ5 H5 ⟨w5, O5, j, m, rfl, ⟨s5, G5⟩, x5, m5, hj, h40, rfl⟩
  obtain ⟨dx5, hg5⟩ := G5.ob
  have hbp5 := m5 _ _ hbp4
  refine ⟨_, rfl, _, rfl, g, dx5, _, rfl, G5.sub hg5, by rfl, _, rfl, g, w5, O5, j, _, rfl, ⟨s5, G5⟩, hj, ?_⟩
  rw [lev_solid]
  refine ⟨_, _, rfl, rfl, shlC (by omega), _, _, rfl, rfl, ⟨by decide, by decide⟩, ?_⟩
  dsimp only
  rw [shl1, show p2 (m + 1) / 2 = p2 m by rw [p2_succ]; omega]
  refine ⟨bp, b, p2 m, rfl, G5.sub hbp5, _, rfl, ?_⟩
  cases hl : lies b (p2 m) with
  | false =>
    have m40 : m < 40 := by
      refine Classical.byContradiction fun n => ?_
      obtain rfl : m = 40 := by omega
      rw [lim_eq] at hl
      rw [hl] at hlies
      cases hlies
    refine iteT ⟨fun σ' H' => ∃ μ', μ' < 40 - m ∧ ∃ (w5 : GWd) (O5 : Hp) (j m : Nat), σ' = [some (.ref g), some (.int (j : Nat)), some (.ref bp), some (.int (st : Nat)), some (.bl false), some (.ref fI), some (.ref fO)] ∧ GV K S g w5 O5 H' ∧ ExC w2 w5 ∧ Same O4 O5 ∧ w5.cs[j]? = some (solid (m + 1) 0) ∧ m ≤ 40 ∧ μ' = 40 - m, fun _ _ h => h, ?_⟩
    refine ⟨_, rfl, _, rfl, g, w5, O5, j, zeroPl, m + 1, rfl, ⟨s5, G5⟩, by rw [cw_zero]; exact hj, by omega, by omega, sup_zero _, fam_zero G5.sol, fun n w6 O6 H6 G6 x6 m6 hn => ?_⟩
    rw [cw_zero] at hn
    exact ⟨40 - (m + 1), by omega, w6, O6, n, m + 1, rfl, G6, x5.trans x6, m5.trans m6, hn, by omega, rfl⟩
  | true =>
    refine iteF ?_
    refine ⟨_, rfl, _, rfl, _, rfl, _, rfl, _, rfl, _, rfl, g, w5, O5, j, m, _, bp, b, rfl, ⟨s5, G5⟩, hj, lev_solid _ _, G5.sub hbp5, fun r H6 hr0 eH6 => ?_⟩
    subst eH6
    have G6 := G5.new hr0 (.tup (bxT (b.1 + p2 m, b.2.1 + p2 m, b.2.2.1, b.2.2.2)))
    refine ⟨_, rfl, _, rfl, fun d hd0 ND => ?_⟩
    have G7 := G6.new hd0 (NDO P w d [])
    have fr0 := G5.fresh hr0
    have fd0 := G6.fresh hd0
    have m7 : Same O5 (upd (upd O5 r (.tup (bxT (b.1 + p2 m, b.2.1 + p2 m, b.2.2.1, b.2.2.2)))) d (NDO P w d [])) := (same_new fr0 _).trans (same_new fd0 _)
    have kfI7 := m7 _ _ (m5 _ _ kfI4)
    have kfO7 := m7 _ _ (m5 _ _ kfO)
    have kcI7 := m7 _ _ (m5 _ _ kcI)
    have kcO7 := m7 _ _ (m5 _ _ kcO)
    have nd7 : ∀ {a : Addr} {o : HO}, O5 a = some o → a ≠ d := fun {a o} h => ne_of_none (same_new fr0 _ _ _ h) fd0
    have ND7 : NDict P w (upd (upd O5 r (.tup (bxT (b.1 + p2 m, b.2.1 + p2 m, b.2.2.1, b.2.2.2)))) d (NDO P w d [])) d [] := ⟨upd_same, ND.sz, ND.ns, ND.nd, fun x hx => by cases hx⟩
    have NJ7 : NJ P w w5 (upd (upd O5 r (.tup (bxT (b.1 + p2 m, b.2.1 + p2 m, b.2.2.1, b.2.2.2)))) d (NDO P w d [])) d st (b.1 + p2 m) (b.2.1 + p2 m) [] := ⟨ND7, ⟨[], rfl, List.nodup_nil, fun p hp => by cases hp⟩, fun k p hk => by cases hk⟩
    have W2 : ∀ {qI qO : Str} {clI clO : List (Str × Addr)}, clO = [] → Two P w K mg base S g st fI fO (NF.of s_inside "inside" qI clI cI) (NF.of s_outside "outside" qO clO cO) := fun h => ⟨nok_inside T, nok_outside, h⟩
    have rT : upd (upd O5 r (.tup (bxT (b.1 + p2 m, b.2.1 + p2 m, b.2.2.1, b.2.2.2)))) d (NDO P w d []) r = some (.tup (bxT (b.1 + p2 m, b.2.1 + p2 m, b.2.2.1, b.2.2.2))) := by
      rw [upd_ne (ne_of_none upd_same fd0), upd_same]
    have aX : al (m + 1) (-(p2 m)) := al_neg (al_p2 (by omega))
    have pm := p2_pos m
    refine ⟨_, PT (W2 (by rfl)) 49, w5, _, j, m + 1, r, _, ind b st, -(p2 m), -(p2 m), rfl, ⟨⟨s5, G7⟩, ExC.refl _, SameX.refl _ _, [], NJ7⟩, hj, by omega, by omega, rT, kfI7, kcI7, kfO7, kcO7, h7, ⟨nd7 (m5 _ _ kfI4), nd7 (m5 _ _ kcI), nd7 (m5 _ _ kfO), nd7 (m5 _ _ kcO)⟩, aX, aX, hF, ⟨.inr ⟨0, by simp only; omega⟩, bw2⟩, ⟨.inr ⟨0, by simp only; omega⟩, bh2⟩, fun x y h1 h2 h3 h4 => ?_, fun r2 w8 O8 H8 I8 hr2 => ?_⟩
    · exact ind_congr (by simp only; omega)
    · have hr3 : w8.cs[r2]? = some (cw (ind b st) (m + 1)) := hr2
      refine ⟨g, w8, O8, r2, ind b st, m + 1, rfl, I8.gv, hr3, by omega, by omega, lies_sup hl, hF, fun k' Fk _ i9 w9 O9 H9 G9 x9 m9 hi9 => ?_⟩
      have mO8 : ∀ a o, O5 a = some o → O8 a = some o := fun a o h => I8.sx a o (nd7 h) (m7 _ _ h)
      refine q k' Fk i9 w9 O9 H9 G9 (x2.trans (x5.trans (I8.ex.trans x9))) (eO.trans (LamX.ExtN.of fun a o h => m9 _ _ (mO8 _ _ (m5 _ _ h)))) (TO4.ext fun a o h => m9 _ _ (mO8 _ _ (m5 _ _ h))) hi9
end
end Jf
/-! JfL2 -/
set_option autoImplicit true
/-! The map, many times. -/
namespace Jf
open PySem PySem.Spec PyProof.Rows L2
theorem fl8_at {f : Nat → Nat} {s : Nat} (h : s < 8) : (fl8 f)[s]? = some (.int ((f s : Nat) : Int)) := by
  show ((List.range 8).map _)[s]? = _
  rw [List.getElem?_map, List.getElem?_range h]
  rfl
theorem fl8_len (f : Nat → Nat) : (fl8 f).length = 8 := by
  show ((List.range 8).map _).length = 8
  rw [List.length_map, List.length_range]
theorem fl8_congr {f g : Nat → Nat} (h : ∀ s, s < 8 → f s = g s) : fl8 f = fl8 g := by
  show (List.range 8).map _ = (List.range 8).map _
  refine List.map_congr_left fun s hs => ?_
  rw [h s (List.mem_range.mp hs)]
theorem it_two (m : Nat → Nat) : ∀ (r s : Nat), it (fun s => m (m s)) r s = it m (2 * r) s := by
  intro r
  induction r with
  | zero => intro s; rfl
  | succ r ih =>
    intro s
    show m (m (it (fun s => m (m s)) r s)) = _
    rw [ih, show 2 * (r + 1) = (2 * r + 1) + 1 by omega]
    rfl
theorem it_le8 {m : Nat → Nat} (h : ∀ s, s < 8 → m s < 8) : ∀ (r s : Nat), s < 8 → it m r s < 8 := by
  intro r
  induction r with
  | zero => intro s hs; exact hs
  | succ r ih => intro s hs; exact h _ (ih s hs)
section
variable {P : Program} {w : World} {K : PySem.W.Frag} {mg : Str → Option Value} {base : Heap}
def spMapped : Sp := fun vs H Qk _ => ∃ (a : Addr) (m : Nat → Nat) (n : Nat), vs = [.ref a, .int (n : Nat)] ∧ H a = some (.lst (fl8 m)) ∧ (∀ s, s < 8 → m s < 8) ∧ ∀ p H', Same H H' → H' p = some (.lst (fl8 (it m n))) → Qk (.ref p) H'
def MapW (m : Nat → Nat) (n : Nat) (H : Hp) (k : Nat) (σ : L2.St) (H' : Hp) : Prop := ∃ (e f : Nat → Nat) (ap dp : Addr), σ = [some (.ref ap), some (.int (k : Nat)), some (.ref dp), none] ∧ H' ap = some (.lst (fl8 e)) ∧ H' dp = some (.lst (fl8 f)) ∧ Same H H' ∧ (∀ s, s < 8 → e s < 8) ∧ (∀ s, s < 8 → f s < 8) ∧ ∀ s, s < 8 → it e k (f s) = it m n s
theorem sc_law_mapped : FnScope [("_law_made" : Str), ("_law_n" : Str), ("_law_done" : Str), ("_law_state" : Str)] ["_law_made", "_law_n"] (defScope s_law_mapped) := ⟨rfl, rfl, rfl, by decide +kernel, rfl, by decide +kernel, by decide +kernel⟩
theorem ok_law_mapped (T : Txt K mg) : Ok P w K mg base ("_law_mapped", none) ["_law_made", "_law_n"] 1 spMapped := by
  refine Ok.of T.d_law_mapped sc_law_mapped (fun vs H Q E h => ?_) (fun cdv A outer s H vs Q E hr h => ?_)
  · obtain ⟨a, m, n, rfl, _⟩ := h
    rfl
  obtain ⟨a, m, n, rfl, ha, hm, q⟩ := h
  refine ⟨_, (pss_cons (ps_set (i := 2) sc_law_mapped.nd rfl (Or.inl rfl) (pe_lst (pa_cons pe_int (pa_cons pe_int (pa_cons pe_int (pa_cons pe_int (pa_cons pe_int (pa_cons pe_int (pa_cons pe_int (pa_cons pe_int pa_nil))))))))))
      (pss_cons (ps_while PassesOwn.never (pt_cmpR op_gt (pv 1) pe_int (nomark _)) (C8.pss_cut (ps_if (pt_cmpR op_eq (pe_op op_mod (pv 1) pe_int) pe_int (nomark _)) (pss_one (ps_setLc (i := 2) (own := [("_law_state", 3)]) (g := gName 3) (te := (tOp (rIxL K) (tVar 0) (tVar 3))) (by rfl) sc_law_mapped.nd rfl rfl (sw_true rfl rfl rfl (by decide +kernel)) (pi_list (pv 2)) (blkOk_by (own := [("_law_state", 3)]) (N := [("_law_made" : Str), ("_law_n" : Str), ("_law_done" : Str), ("_law_state" : Str)]) (sc := defScope s_law_mapped) (by decide +kernel)) (fun _ _ _ _ _ => pg_name (i := 3) sc_law_mapped.nd rfl (Or.inl rfl)) (fun _ _ _ _ _ => pts_nil) (fun _ _ _ _ _ => (pe_ix ix_list (pv 0) (pv 3) (fun _ _ => rfl))))) pss_nil)
      (pss_cons (ps_set (i := 0) sc_law_mapped.nd rfl (Or.inr rfl) (pe_lc (own := [("_law_state", 3)]) (g := gName 3) (te := (tOp (rIxL K) (tVar 0) (tOp (rIxL K) (tVar 0) (tVar 3)))) (by rfl) sc_law_mapped.nd (pi_range1 (by rfl) T.f_range (pa_cons pe_int pa_nil)) (blkOk_by (own := [("_law_state", 3)]) (N := [("_law_made" : Str), ("_law_n" : Str), ("_law_done" : Str), ("_law_state" : Str)]) (sc := defScope s_law_mapped) (by decide +kernel)) (fun _ _ _ _ _ => pg_name (i := 3) sc_law_mapped.nd rfl (Or.inl rfl)) (fun _ _ _ _ _ => pts_nil) (fun _ _ _ _ _ => (pe_ix ix_list (pv 0) (pe_ix ix_list (pv 0) (pv 3) (fun _ _ => rfl)) (fun _ _ => rfl)))))
      (pss_one (ps_set (i := 1) sc_law_mapped.nd rfl (Or.inl rfl) (pe_op op_fdiv (pv 1) pe_int))))))
      (pss_one (ps_ret (pv 2))))), ?_⟩
  refine ⟨(by show 8 ≤ sizeLine; decide), fun D hD => ?_⟩
  have s0 := same_new hD (.lst [.int 0, .int 1, .int 2, .int 3, .int 4, .int 5, .int 6, .int 7])
  refine ⟨MapW m n H, ⟨n, m, fun s => s, a, D, rfl, s0 _ _ ha, upd_same, s0, hm, fun _ h => h, fun _ _ => rfl⟩, ?_⟩
  rintro k σ H1 ⟨e, f, ap, dp, rfl, hap, hdp, s1, he, hf, hi⟩
  refine ⟨_, rfl, _, _, rfl, rfl, _, rfl, ?_⟩
  by_cases hk : 0 < k
  · rw [decide_eq_true (show ((k : Nat) : Int) > 0 by omega)]
    refine iteT ⟨MapW m n H (k / 2), fun σ' H' h => ⟨k / 2, by omega, h⟩, ?_⟩
    refine ⟨fun σ2 H2 => ∃ (f2 : Nat → Nat) (dp2 : Addr), σ2 = [some (.ref ap), some (.int (k : Nat)), some (.ref dp2), none] ∧ Same H1 H2 ∧ H2 dp2 = some (.lst (fl8 f2)) ∧ (∀ s, s < 8 → f2 s < 8) ∧ ∀ s, s < 8 → f2 s = it e (k % 2) (f s), ?_, ?_⟩
    · refine ⟨_, rfl, _, _, rfl, rfl, (by show (0 : Int) < 2; decide), rfl, _, rfl, ?_⟩
      by_cases h2 : k % 2 = 1
      · rw [decide_eq_true (show V.int (((k : Nat) : Int) % 2) = V.int 1 by rw [show ((k : Nat) : Int) % 2 = 1 by omega])]
        refine iteT ?_
        refine ⟨_, rfl, dp, rfl, ⟨_, SqL.of hdp⟩, fun D2 hD2 => ?_⟩
        have s2 := fun l => same_new hD2 (.lst l)
        refine lc_map (walk_list (K := K) (a := dp) (xs := fl8 f)) (fun _ => rfl) (fun n H' => H' = upd H1 D2 (.lst ((List.range n).map fun i => V.int (e (f i) : Nat)))) rfl (fun n H' _ h => by rw [h]; exact SqL.of (s2 _ _ _ hdp)) ?_ ?_
        · rintro n x H3 H4 hn rfl ⟨rfl, hy⟩
          rw [fl8_len] at hn
          rw [fl8_at hn] at hy
          obtain rfl := Option.some.inj hy
          refine ⟨_, rfl, _, rfl, ap, _, _, _, rfl, rfl, SqL.of (s2 _ _ _ hap), atI_nat (fl8_at (hf _ hn)), _, upd_same, ?_, ?_⟩
          · rw [List.length_map, List.length_range]
            exact small1000 (by omega)
          · rw [upd_upd, List.range_succ, List.map_append]
            rfl
        · rintro H3 rfl
          rw [fl8_len]
          exact ⟨fun s => e (f s), D2, rfl, s2 _, upd_same, fun s h => he _ (hf s h), fun s _ => by rw [h2]; rfl⟩
      · rw [decide_eq_false (show ¬ V.int (((k : Nat) : Int) % 2) = V.int 1 from fun z => by injection z with z; omega)]
        exact iteF ⟨f, dp, rfl, fun _ _ h => h, hdp, hf, fun s _ => by rw [show k % 2 = 0 by omega]; rfl⟩
    · rintro σ2 H2 ⟨f2, dp2, rfl, s2, hd2, hf2, e2⟩
      refine ⟨8, rfl, by decide, by decide, fun D3 hD3 => ?_⟩
      have s3 := fun l => same_new hD3 (.lst l)
      have hap2 := s2 _ _ hap
      refine lc_map (walk_range (lo := 0) (n := 8)) (fun _ => rfl) (fun n H' => H' = upd H2 D3 (.lst ((List.range n).map fun i => V.int (e (e i) : Nat)))) rfl (fun _ _ _ _ => True.intro) ?_ ?_
      · rintro n x H3 H4 hn rfl ⟨rfl, hx⟩
        have hx2 : x = V.int (n : Nat) := hx.trans (by show V.int (0 + (n : Nat)) = _; rw [Int.zero_add])
        subst hx2
        have hn8 : n < 8 := hn
        refine ⟨_, rfl, _, rfl, _, rfl, ap, _, _, _, rfl, rfl, SqL.of (s3 _ _ _ hap2), atI_nat (fl8_at hn8), ap, _, _, _, rfl, rfl, SqL.of (s3 _ _ _ hap2), atI_nat (fl8_at (he _ hn8)), _, upd_same, ?_, ?_⟩
        · rw [List.length_map, List.length_range]
          exact small1000 (by omega)
        · rw [upd_upd, List.range_succ, List.map_append]
          rfl
      · rintro H3 rfl
        refine ⟨_, rfl, _, _, rfl, rfl, ⟨by decide, by decide⟩, fun s => e (e s), f2, D3, dp2, ?_, upd_same, s3 _ _ _ hd2, (s1.trans s2).trans (s3 _), fun s h => he _ (he _ h), hf2, fun s h => ?_⟩
        · rfl
        · rw [it_two, e2 s h, ← it_add, ← hi s h]
          congr 1
          omega
  · rw [decide_eq_false (show ¬ ((k : Nat) : Int) > 0 by omega)]
    refine iteF ⟨_, rfl, q _ _ s1 ?_⟩
    rw [hdp]
    obtain rfl : k = 0 := by omega
    exact congrArg (fun z => some (HO.lst z)) (fl8_congr hi)
end
end Jf
/-! JfL3 -/
set_option autoImplicit true
/-! The rule's text. -/
namespace Jf
open PySem PySem.Spec PyProof.Rows L2
def rMulS : R2 := fun x y H Q => ∃ (z : Str) (k : Nat), x = .str z ∧ y = .int (k : Nat) ∧ z.length = 1 ∧ k ≤ 100 ∧ Q (.str (Txt.mul z k)) H
theorem op_mul_str {X : Cx} : OpR X (binaryOp .Mult) rMulS := by
  intro pins s σ H x y v u Q I rx ry h
  obtain ⟨z, k, rfl, rfl, hz, hk, q⟩ := h
  obtain ⟨t, rfl⟩ := rx
  obtain ⟨t', rfl⟩ := ry
  refine SB.mul ⟨?_, fun h1 _ => ?_, fun h1 _ => ?_⟩ fun t' k' => ⟨.str (Txt.mul z k), H, I.tok _, ⟨_, rfl⟩, q⟩
  · have e1 : decide (((k : Nat) : Int) < -(2 ^ 63)) = false := decide_eq_false (by omega)
    have e2 : decide (((k : Nat) : Int) ≥ 2 ^ 63) = false := decide_eq_false (by omega)
    rw [e1, e2] <;> rfl
  · rw [hz]
    have : (1 : Int) ≤ (2 ^ 63 - 1) / (k : Nat) := (Int.le_ediv_iff_mul_le (by omega)).mpr (by omega)
    omega
  · rw [hz, Int.toNat_natCast]
    unfold Builtin.Str.tooLong
    exact decide_eq_false (by have := sizeLine_eq; omega)
section
variable {P : Program} {w : World} {K : PySem.W.Frag} {mg : Str → Option Value} {base : Heap}
theorem dig_str : ∀ d : Nat, d < 8 → (toString ((d : Nat) : Int) : Str) = dig d := by
  intro d hd
  rcases (show d = 0 ∨ d = 1 ∨ d = 2 ∨ d = 3 ∨ d = 4 ∨ d = 5 ∨ d = 6 ∨ d = 7 by omega) with rfl | rfl | rfl | rfl | rfl | rfl | rfl | rfl <;> decide +kernel
theorem mul_star : ∀ y : Nat, y < 8 → Txt.mul ("*" : Str) (y : Nat) = ⟨(List.replicate y 42).toArray⟩ := by
  intro y hy
  rcases (show y = 0 ∨ y = 1 ∨ y = 2 ∨ y = 3 ∨ y = 4 ∨ y = 5 ∨ y = 6 ∨ y = 7 by omega) with rfl | rfl | rfl | rfl | rfl | rfl | rfl | rfl <;> decide +kernel
/-- the word of way y, at state d -/
def gword (y d : Nat) : Str := (Txt.mul ("*" : Str) (y : Nat) ++ toString ((d : Nat) : Int)) ++ Txt.mul ("*" : Str) ((7 - y : Nat) : Nat)
def gpart (m : Nat → Nat) (y d : Nat) : Str := if y = 8 then (toString ((d : Nat) : Int) ++ " ") ++ toString ((m d : Nat) : Int) else ((("* " : Str) ++ gword y d) ++ " ") ++ toString ((m d : Nat) : Int)
def gparts (m : Nat → Nat) (y : Nat) : List Str := (List.range 7).map (fun i => gpart m y (i + 1)) ++ (if y < 8 then [("* 0" : Str)] else [])
def gtext (m : Nat → Nat) (y : Nat) : Str := Txt.join "; " (gparts m y)
theorem lenD {d : Nat} (h : d < 8) : (toString ((d : Nat) : Int) : Str).length = 1 := by rw [dig_str d h]; rfl
theorem lenM {y : Nat} (h : y < 8) : (Txt.mul ("*" : Str) (y : Nat)).length = y := by
  rw [mul_star y h]
  show (List.replicate y 42).toArray.size = y
  rw [List.size_toArray, List.length_replicate]
theorem lenG {y d : Nat} (h : y < 8) (hd : d < 8) : (gword y d).length = 8 := by
  unfold gword
  rw [strLen_append, strLen_append, lenM h, lenD hd, lenM (by omega)]
  omega
theorem lenP {m : Nat → Nat} {y d : Nat} (hy : y < 9) (hd : d < 8) (hm : m d < 8) : (gpart m y d).length ≤ 12 := by
  unfold gpart
  by_cases h : y = 8
  · rw [if_pos h, strLen_append, strLen_append, lenD hd, lenD hm]
    decide
  · rw [if_neg h, strLen_append, strLen_append, strLen_append, lenG (by omega) hd, lenD hm]
    decide
theorem len_parts {m : Nat → Nat} (hm : ∀ s, s < 8 → m s < 8) {y : Nat} (hy : y < 9) : ∀ z ∈ gparts m y, z.length ≤ 12 := by
  intro z hz
  rcases List.mem_append.mp hz with h | h
  · obtain ⟨i, hi, rfl⟩ := List.mem_map.mp h
    have := List.mem_range.mp hi
    exact lenP hy (by omega) (hm _ (by omega))
  · by_cases h8 : y < 8
    · rw [if_pos h8] at h
      rw [List.mem_singleton.mp h]
      decide
    · rw [if_neg h8] at h
      cases h
theorem sum_le {c : Nat} : ∀ {l : List Str}, (∀ z ∈ l, z.length ≤ c) → (l.map (·.length)).sum ≤ l.length * c
  | [], _ => Nat.zero_le _
  | z :: l, h => by
    have a := h z (List.mem_cons_self ..)
    have b := sum_le (l := l) fun z hz => h z (List.mem_cons_of_mem _ hz)
    rw [List.map_cons, List.sum_cons, List.length_cons, Nat.succ_mul]
    omega
theorem gparts_len (m : Nat → Nat) (y : Nat) : (gparts m y).length ≤ 8 := by
  unfold gparts
  rw [List.length_append, List.length_map, List.length_range]
  split <;> simp
def spText : Sp := fun vs H Qk _ => ∃ (a : Addr) (m : Nat → Nat) (y : Nat), vs = [.ref a, .int (y : Nat)] ∧ H a = some (.lst (fl8 m)) ∧ (∀ s, s < 8 → m s < 8) ∧ y < 9 ∧ ∀ H', Same H H' → Qk (.str (gtext m y)) H'
theorem sc_law_glide_text : FnScope [("_law_made" : Str), ("_law_way" : Str), ("_law_parts" : Str), ("_law_state" : Str), ("_law_word" : Str)] ["_law_made", "_law_way"] (defScope s_law_glide_text) := ⟨rfl, rfl, rfl, by decide +kernel, rfl, by decide +kernel, by decide +kernel⟩
theorem ok_law_glide_text (T : Txt K mg) : Ok P w K mg base ("_law_glide_text", none) ["_law_made", "_law_way"] 1 spText := by
  refine Ok.of T.d_law_glide_text sc_law_glide_text (fun vs H Q E h => ?_) (fun cdv A outer s H vs Q E hr h => ?_)
  · obtain ⟨a, m, y, rfl, _⟩ := h
    rfl
  obtain ⟨a, m, y, rfl, ha, hm, hy, q⟩ := h
  refine ⟨_, (pss_cons (ps_set (i := 2) sc_law_glide_text.nd rfl (Or.inl rfl) (pe_lst pa_nil))
      (C8.pss_cut (ps_for PassesOwn.never (by rfl) (pi_range2 (by rfl) T.f_range (pa_cons pe_int (pa_cons pe_int pa_nil))) (pg_name (i := 3) sc_law_glide_text.nd rfl (Or.inl rfl)) (pss_one (ps_if (pt_cmpR op_eq (pv 1) pe_int (nomark _)) (pss_one (ps_expr (pe_bm PySem.F.plainAttrs_list PySem.F.slot_list_append PySem.F.type_list_append mt_append (pv 2) (pa_cons (pe_op op_add_str (pe_op op_add_str (pe_callTy call_str_int (by rfl) T.f_str (by decide +kernel) (pa_cons (pv 3) pa_nil)) pe_str) (pe_callTy call_str_int (by rfl) T.f_str (by decide +kernel) (pa_cons (pe_ix ix_list (pv 0) (pv 3) (fun _ _ => rfl)) pa_nil))) pa_nil)))) (pss_cons (ps_set (i := 4) sc_law_glide_text.nd rfl (Or.inl rfl) (pe_op op_add_str (pe_op op_add_str (pe_op op_mul_str pe_str (pv 1)) (pe_callTy call_str_int (by rfl) T.f_str (by decide +kernel) (pa_cons (pv 3) pa_nil))) (pe_op op_mul_str pe_str (pe_op op_sub pe_int (pv 1)))))
      (pss_one (ps_expr (pe_bm PySem.F.plainAttrs_list PySem.F.slot_list_append PySem.F.type_list_append mt_append (pv 2) (pa_cons (pe_op op_add_str (pe_op op_add_str (pe_op op_add_str pe_str (pv 4)) pe_str) (pe_callTy call_str_int (by rfl) T.f_str (by decide +kernel) (pa_cons (pe_ix ix_list (pv 0) (pv 3) (fun _ _ => rfl)) pa_nil))) pa_nil))))))))
      (C8.pss_cut (ps_if (pt_cmpR op_lt (pv 1) pe_int (nomark _)) (pss_one (ps_expr (pe_bm PySem.F.plainAttrs_list PySem.F.slot_list_append PySem.F.type_list_append mt_append (pv 2) (pa_cons pe_str pa_nil)))) pss_nil)
      (pss_one (ps_ret (pe_join pe_str (pv 2))))))), ?_⟩
  refine ⟨Nat.zero_le _, fun D hD => ?_⟩
  have s0 := fun l => same_new hD (.lst l)
  have nz : ∀ x : Str, x.length ≤ 60 → x.length ≤ sizeLine := fun x h => Nat.le_trans h (by decide)
  have k8 : ∀ k : Nat, k < 8 → (((k : Nat) : Int)).natAbs.log2 < 1920 := fun k h => Nat.lt_of_le_of_lt (Nat.log2_le_self _) (by omega)
  refine ⟨fun σ' H' => ∃ (v3 v4 : Option V), σ' = [some (.ref a), some (.int (y : Nat)), some (.ref D), v3, v4] ∧ H' = upd H D (.lst (((List.range 7).map fun i => gpart m y (i + 1)).map V.str)), ?_, ?_⟩
  · refine ⟨1, 8, rfl, by decide, for_it (walk_range (lo := 1) (n := 7)) (fun n σ' H' => ∃ (v3 v4 : Option V), σ' = [some (.ref a), some (.int (y : Nat)), some (.ref D), v3, v4] ∧ H' = upd H D (.lst (((List.range n).map fun i => gpart m y (i + 1)).map V.str))) ⟨none, none, rfl, rfl⟩ (fun _ _ _ _ _ => True.intro) ?_ ?_⟩
    · rintro n x σ1 H1 H2 hn ⟨v3, v4, rfl, rfl⟩ ⟨rfl, hx⟩
      have hn7 : n < 7 := hn
      have hx2 : x = V.int ((n + 1 : Nat) : Int) := hx.trans (by show V.int (1 + (n : Nat)) = _; rw [show (1 : Int) + (n : Nat) = ((n + 1 : Nat) : Int) by omega])
      subst hx2
      refine ⟨_, rfl, rfl, _, rfl, ?_⟩
      by_cases h8 : y = 8
      · rw [decide_eq_true (show V.int ((y : Nat) : Int) = V.int 8 by rw [h8]; rfl)]
        refine iteT ?_
        refine ⟨_, rfl, .inl ⟨rfl, _, SqL.of upd_same⟩, _, rfl, _, rfl, k8 _ (by omega), _, _, rfl, rfl, ?_, _, rfl, _, rfl, a, _, _, _, rfl, rfl, SqL.of (s0 _ _ _ ha), atI_nat (fl8_at (by omega)), _, rfl, k8 _ (hm _ (by omega)), _, _, rfl, rfl, ?_, D, _, _, rfl, rfl, upd_same, ?_, ?_⟩
        · rw [lenD (by omega)]; decide
        · rw [strLen_append, lenD (by omega), lenD (hm _ (by omega))]; decide
        · rw [List.length_map, List.length_map, List.length_range]
          exact small1000 (by omega)
        · refine ⟨_, _, rfl, ?_⟩
          rw [upd_upd, List.range_succ, List.map_append, List.map_append]
          have e : gpart m y (n + 1) = (toString ((n + 1 : Nat) : Int) ++ " ") ++ toString ((m (n + 1) : Nat) : Int) := if_pos h8
          show upd _ D (.lst (_ ++ [V.str _])) = upd _ D (.lst (_ ++ [V.str (gpart m y (n + 1))]))
          rw [e]
      · rw [decide_eq_false (show ¬ V.int ((y : Nat) : Int) = V.int 8 from fun z => by injection z with z; omega)]
        refine iteF ?_
        refine ⟨_, rfl, "*", y, rfl, rfl, rfl, by omega, _, rfl, _, rfl, k8 _ (by omega), _, _, rfl, rfl, ?_, _, rfl, _, _, rfl, rfl, "*", 7 - y, rfl, ?_, rfl, by omega, _, _, rfl, rfl, ?_, ?_⟩
        · rw [lenD (by omega), lenM (by omega)]
          exact Nat.le_trans (show y + 1 ≤ 9 by omega) (by decide)
        · rw [show ((7 - y : Nat) : Int) = 7 - (y : Nat) by omega]
        · rw [strLen_append, lenD (by omega), lenM (by omega), lenM (by omega)]
          exact Nat.le_trans (show y + 1 + (7 - y) ≤ 9 by omega) (by decide)
        have ew : ((Txt.mul ("*" : Str) (y : Nat) ++ toString ((n + 1 : Nat) : Int)) ++ Txt.mul ("*" : Str) ((7 - y : Nat) : Nat)) = gword y (n + 1) := rfl
        rw [ew]
        refine ⟨_, rfl, .inl ⟨rfl, _, SqL.of upd_same⟩, _, rfl, _, _, rfl, rfl, ?_, _, _, rfl, rfl, ?_, _, rfl, _, rfl, a, _, _, _, rfl, rfl, SqL.of (s0 _ _ _ ha), atI_nat (fl8_at (by omega)), _, rfl, k8 _ (hm _ (by omega)), _, _, rfl, rfl, ?_, D, _, _, rfl, rfl, upd_same, ?_, ?_⟩
        · rw [lenG (by omega) (by omega)]; decide
        · rw [strLen_append, lenG (by omega) (by omega)]; decide
        · rw [strLen_append, strLen_append, lenG (by omega) (by omega), lenD (hm _ (by omega))]; decide
        · rw [List.length_map, List.length_map, List.length_range]
          exact small1000 (by omega)
        · refine ⟨_, _, rfl, ?_⟩
          rw [upd_upd, List.range_succ, List.map_append, List.map_append]
          have e : gpart m y (n + 1) = ((("* " : Str) ++ gword y (n + 1)) ++ " ") ++ toString ((m (n + 1) : Nat) : Int) := if_neg h8
          show upd _ D (.lst (_ ++ [V.str _])) = upd _ D (.lst (_ ++ [V.str (gpart m y (n + 1))]))
          rw [e]
    · rintro σ1 H1 ⟨v3, v4, rfl, rfl⟩
      exact ⟨v3, v4, rfl, rfl⟩
  · rintro σ1 H1 ⟨v3, v4, rfl, rfl⟩
    refine ⟨fun σ' H' => ∃ (v3 v4 : Option V), σ' = [some (.ref a), some (.int (y : Nat)), some (.ref D), v3, v4] ∧ H' = upd H D (.lst ((gparts m y).map V.str)), ?_, ?_⟩
    · refine ⟨_, rfl, _, _, rfl, rfl, _, rfl, ?_⟩
      by_cases h8 : y < 8
      · rw [decide_eq_true (show ((y : Nat) : Int) < 8 by omega)]
        refine iteT ?_
        refine ⟨_, rfl, .inl ⟨rfl, _, SqL.of upd_same⟩, D, _, _, rfl, rfl, upd_same, ?_, v3, v4, rfl, ?_⟩
        · rw [List.length_map, List.length_map, List.length_range]
          exact small1000 (by omega)
        · rw [upd_upd]
          unfold gparts
          rw [if_pos h8, List.map_append]
          rfl
      · rw [decide_eq_false (show ¬ ((y : Nat) : Int) < 8 by omega)]
        refine iteF ⟨v3, v4, rfl, ?_⟩
        unfold gparts
        rw [if_neg h8, List.append_nil]
    · rintro σ1 H1 ⟨v3, v4, rfl, rfl⟩
      refine ⟨⟨_, rfl⟩, _, rfl, "; ", D, gparts m y, rfl, rfl, .inl (SqL.of upd_same), ?_, q _ (s0 _)⟩
      have h1 := sum_le (len_parts hm hy)
      have h2 := gparts_len m y
      have h3 : ("; " : Str).length = 2 := by decide
      rw [h3]
      omega
end
end Jf
/-! JfL4 -/
set_option autoImplicit true
/-! The rule's text read again. -/
namespace Jf
open PySem PySem.Spec PyProof.Rows L2
def gws (y d : Nat) : List (Option Nat) := (List.range 8).map fun j => if j = y then some d else none
def gcl (m : Nat → Nat) (y d : Nat) : Cl := if y = 8 then ⟨some d, [], m d⟩ else ⟨none, [gws y d], m d⟩
def gcls (m : Nat → Nat) (y : Nat) : List Cl := (List.range 7).map (fun i => gcl m y (i + 1)) ++ (if y < 8 then [⟨none, [], 0⟩] else [])
theorem gword_text : ∀ {y d : Nat}, y < 8 → d < 8 → gword y d = wtext (gws y d) := by
  intro y d hy hd
  unfold gword
  rw [dig_str d hd, mul_star y hy, mul_star (7 - y) (by omega)]
  rcases (show y = 0 ∨ y = 1 ∨ y = 2 ∨ y = 3 ∨ y = 4 ∨ y = 5 ∨ y = 6 ∨ y = 7 by omega) with rfl | rfl | rfl | rfl | rfl | rfl | rfl | rfl <;> rfl
theorem tl_inj {x y : Str} (h : TL.tl x = TL.tl y) : x = y := by
  have := TL.map_tl_inj (l := [x]) (m := [y]) (by rw [List.map_cons, List.map_cons, h])
  injection this
def last0 (m : Nat → Nat) (y : Nat) : Cl := ⟨none, [], 0⟩
theorem part_join {m : Nat → Nat} {y d : Nat} (hy : y < 9) (hd : d < 8) (hm : m d < 8) : gpart m y d = Txt.join " " (ctoks (gcl m y d)) := by
  rw [TL.join_eq]
  unfold gpart gcl
  by_cases h : y = 8
  · rw [if_pos h, if_pos h, dig_str d hd, dig_str (m d) hm]
    rfl
  · rw [if_neg h, if_neg h, dig_str (m d) hm, gword_text (by omega) hd]
    apply tl_inj
    rw [TL.tl_join]
    show _ = TL.joinL (TL.tl " ") [TL.tl "*", TL.tl (wtext (gws y d)), TL.tl (dig (m d))]
    rw [TL.tl_append, TL.tl_append, TL.tl_append]
    show (((TL.tl "* " ++ _) ++ _) ++ _) = TL.tl "*" ++ (TL.tl " " ++ (TL.tl (wtext (gws y d)) ++ (TL.tl " " ++ TL.tl (dig (m d)))))
    rw [show TL.tl ("* " : Str) = TL.tl ("*" : Str) ++ TL.tl (" " : Str) by decide +kernel]
    simp only [List.append_assoc]
def sg (c : Nat) : Prop := c = 42 ∨ (48 ≤ c ∧ c ≤ 55)
theorem sg_dig {d : Nat} (h : d < 8) : ∀ c ∈ TL.tl (dig d), sg c := fun c hc => by
  have e : c = 48 + d := List.mem_singleton.mp hc
  exact .inr ⟨by omega, by omega⟩
theorem sg_wc {o : Option Nat} (h : le7 o) : sg (wc o) := by
  cases o with
  | none => exact .inl rfl
  | some d => exact .inr ⟨by show 48 ≤ 48 + d; omega, by have := h d rfl; show 48 + d ≤ 55; omega⟩
theorem sg_toks {c : Cl} (h : ClOk c) : ∀ t ∈ ctoks c, ∀ x ∈ TL.tl t, sg x := by
  intro t ht x hx
  rcases List.mem_cons.mp ht with rfl | ht
  · cases e : c.taken with
    | none =>
      rw [e] at hx
      have : x = 42 := List.mem_singleton.mp hx
      exact .inl this
    | some d =>
      rw [e] at hx
      have := h.t d e
      exact sg_dig (d := d) (by omega) x hx
  · rcases List.mem_append.mp ht with ht | ht
    · obtain ⟨ws, hw, rfl⟩ := List.mem_map.mp ht
      have hx2 : x ∈ ws.map wc := hx
      obtain ⟨o, ho, rfl⟩ := List.mem_map.mp hx2
      exact sg_wc ((h.w ws hw).2 o ho)
    · rw [List.mem_singleton.mp ht] at hx
      have := h.m
      exact sg_dig (by omega) x hx
theorem mem_joinL {S : List Nat} : ∀ {ps : List (List Nat)} {c : Nat}, c ∈ TL.joinL S ps → c ∈ S ∨ ∃ p ∈ ps, c ∈ p
  | [], c, h => by cases h
  | [p], c, h => .inr ⟨p, List.mem_singleton.mpr rfl, h⟩
  | p :: q :: r, c, h => by
    rcases List.mem_append.mp h with h | h
    · exact .inr ⟨p, List.mem_cons_self .., h⟩
    · rcases List.mem_append.mp h with h | h
      · exact .inl h
      · rcases mem_joinL h with h | ⟨z, hz, h⟩
        · exact .inl h
        · exact .inr ⟨z, List.mem_cons_of_mem _ hz, h⟩
theorem split_toks {c : Cl} (h : ClOk c) : Txt.split (Txt.join " " (ctoks c)) " " = ctoks c := by
  refine TL.split_join (s := 32) (S := []) (by decide +kernel) (by decide +kernel) (fun e => by cases e) fun p hp z => ?_
  rcases sg_toks h p hp 32 z with e | ⟨e, _⟩ <;> omega
theorem gcl_ok {m : Nat → Nat} {y d : Nat} (hd : d < 8) (hm : m d < 8) : ClOk (gcl m y d) := by
  unfold gcl
  by_cases h : y = 8
  · rw [if_pos h]
    exact ⟨fun e he => by injection he with he; omega, by show m d ≤ 7; omega, by show 0 ≤ 1; omega, fun ws hw => by cases hw⟩
  · rw [if_neg h]
    refine ⟨fun e he => (by cases he), by show m d ≤ 7; omega, Nat.le_refl 1, fun ws hw => ?_⟩
    rw [List.mem_singleton.mp hw]
    refine ⟨by unfold gws; rw [List.length_map, List.length_range], fun o ho e he => ?_⟩
    obtain ⟨j, _, rfl⟩ := List.mem_map.mp ho
    by_cases hj : j = y
    · rw [if_pos hj] at he
      injection he with he
      omega
    · rw [if_neg hj] at he
      cases he
theorem last_ok : ClOk ⟨none, [], 0⟩ := ⟨fun e he => (by cases he), Nat.zero_le _, Nat.zero_le _, fun ws hw => (by cases hw)⟩
theorem gcls_part {m : Nat → Nat} {y : Nat} (hy : y < 9) (hm : ∀ s, s < 8 → m s < 8) {i : Nat} {p : Str} {c : Cl} (h1 : (gparts m y)[i]? = some p) (h2 : (gcls m y)[i]? = some c) : p = Txt.join " " (ctoks c) ∧ ClOk c := by
  unfold gparts at h1
  unfold gcls at h2
  by_cases hi : i < 7
  · rw [List.getElem?_append_left (by rw [List.length_map, List.length_range]; exact hi), List.getElem?_map, List.getElem?_range hi] at h1 h2
    obtain rfl := Option.some.inj h1
    obtain rfl := Option.some.inj h2
    exact ⟨part_join hy (by omega) (hm _ (by omega)), gcl_ok (by omega) (hm _ (by omega))⟩
  · rw [List.getElem?_append_right (by rw [List.length_map, List.length_range]; omega), List.length_map, List.length_range] at h1 h2
    by_cases h8 : y < 8
    · rw [if_pos h8] at h1 h2
      have e7 : i - 7 = 0 := by
        have := (List.getElem?_eq_some_iff.mp h1).1
        rw [List.length_singleton] at this
        omega
      rw [e7] at h1 h2
      obtain rfl := Option.some.inj h1
      obtain rfl := Option.some.inj h2
      exact ⟨by decide +kernel, last_ok⟩
    · rw [if_neg h8] at h1
      cases h1
theorem gcls_len (m : Nat → Nat) (y : Nat) : (gparts m y).length = (gcls m y).length := by
  unfold gparts gcls
  rw [List.length_append, List.length_append, List.length_map, List.length_map]
  split <;> rfl
theorem gparts_split {m : Nat → Nat} {y : Nat} (hy : y < 9) (hm : ∀ s, s < 8 → m s < 8) : Txt.split (gtext m y) "; " = gparts m y := by
  refine TL.split_join (s := 59) (S := [32]) (by decide +kernel) (by decide +kernel) (fun e => ?_) fun p hp z => ?_
  · have := congrArg List.length e
    unfold gparts at this
    rw [List.length_append, List.length_map, List.length_range, List.length_nil] at this
    omega
  · obtain ⟨i, hi, e⟩ := List.getElem_of_mem hp
    have h1 : (gparts m y)[i]? = some p := by rw [List.getElem?_eq_getElem hi, e]
    have h2 : (gcls m y)[i]? = some ((gcls m y)[i]'(by rw [← gcls_len]; exact hi)) := List.getElem?_eq_getElem _
    obtain ⟨e1, e2⟩ := gcls_part hy hm h1 h2
    rw [e1, TL.join_eq, TL.tl_join] at z
    rcases mem_joinL z with z | ⟨q, hq, z⟩
    · have : (59 : Nat) ∉ TL.tl (" " : Str) := by decide +kernel
      exact this z
    · obtain ⟨t, ht, rfl⟩ := List.mem_map.mp hq
      rcases sg_toks e2 t ht 59 z with e | ⟨_, e⟩ <;> omega
theorem gpartOk {m : Nat → Nat} {y : Nat} (hy : y < 9) (hm : ∀ s, s < 8 → m s < 8) {i : Nat} {p : Str} {c : Cl} (h1 : (gparts m y)[i]? = some p) (h2 : (gcls m y)[i]? = some c) : PartOk p c := by
  obtain ⟨e1, e2⟩ := gcls_part hy hm h1 h2
  refine ⟨by rw [e1]; exact split_toks e2, ?_, e2⟩
  have := len_parts hm hy p (List.mem_of_getElem? h1)
  exact Nat.le_trans (show p.length + 2 ≤ 14 by omega) (by decide)
theorem gtext_ne {m : Nat → Nat} {y : Nat} (hy : y < 9) (hm : ∀ s, s < 8 → m s < 8) : gtext m y ≠ "" := by
  intro e
  have h := gparts_split hy hm
  rw [e] at h
  have h2 := congrArg List.length h
  rw [show (Txt.split ("" : Str) "; ").length = 1 by decide +kernel] at h2
  unfold gparts at h2
  rw [List.length_append, List.length_map, List.length_range] at h2
  omega
theorem gtext_len {m : Nat → Nat} {y : Nat} (hy : y < 9) (hm : ∀ s, s < 8 → m s < 8) : (gtext m y).length + 2 ≤ sizeLine := by
  have h1 := sum_le (len_parts hm hy)
  have h2 := gparts_len m y
  have h3 := StrLaws.join_length_le "; " (gparts m y)
  have h4 : ("; " : Str).length = 2 := by decide
  rw [h4] at h3
  unfold gtext
  rw [TL.join_eq]
  exact Nat.le_trans (show _ ≤ 114 by omega) (by decide)
end Jf
/-! JfL5 -/
set_option autoImplicit true
/-! The rule of a way is a gliding one. -/
namespace Jf
open PySem PySem.Spec PyProof.Rows L2
theorem okW_gws {y d a0 a1 a2 a3 a4 a5 a6 a7 : Nat} (hy : y < 8) : okW (gws y d) [a0, a1, a2, a3, a4, a5, a6, a7] = decide (d = [a0, a1, a2, a3, a4, a5, a6, a7].getD y 0) := by
  rcases (show y = 0 ∨ y = 1 ∨ y = 2 ∨ y = 3 ∨ y = 4 ∨ y = 5 ∨ y = 6 ∨ y = 7 by omega) with rfl | rfl | rfl | rfl | rfl | rfl | rfl | rfl <;>
    simp [okW, gws, List.range, List.range.loop]
/-- the cell that a way looks at -/
theorem surr_at (f : Pl) (x z : Int) {y : Nat} (hy : y < 8) : (surr f x z).getD y 0 = f (x + offX y) (z + offY y) := by
  rcases (show y = 0 ∨ y = 1 ∨ y = 2 ∨ y = 3 ∨ y = 4 ∨ y = 5 ∨ y = 6 ∨ y = 7 by omega) with rfl | rfl | rfl | rfl | rfl | rfl | rfl | rfl
  · rfl
  · show f x (z - 1) = f (x + 0) (z + -1); rw [Int.add_zero]; rfl
  · rfl
  · show f (x - 1) z = f (x + -1) (z + 0); rw [Int.add_zero]; rfl
  · show f (x + 1) z = f (x + 1) (z + 0); rw [Int.add_zero]
  · rfl
  · show f x (z + 1) = f (x + 0) (z + 1); rw [Int.add_zero]
  · rfl
theorem fits_gcl {m : Nat → Nat} {y d : Nat} (hy : y < 9) (hd : 0 < d) (f : Pl) (x z : Int) : fitsC (gcl m y d) (f x z) (surr f x z) = decide (d = f (x + offX y) (z + offY y)) := by
  unfold gcl
  by_cases h : y = 8
  · rw [if_pos h, h]
    show (decide (d = f x z) && true) = decide (d = f (x + 0) (z + 0))
    rw [Bool.and_true, Int.add_zero, Int.add_zero]
  · rw [if_neg h, ← surr_at f x z (show y < 8 by omega)]
    show (true && (okW (gws y d) (surr f x z) && true)) = _
    rw [Bool.true_and, Bool.and_true]
    exact okW_gws (by omega)
theorem gcls_at {m : Nat → Nat} {y i : Nat} (hi : i < 7) : (gcls m y)[i]? = some (gcl m y (i + 1)) := by
  unfold gcls
  rw [List.getElem?_append_left (by rw [List.length_map, List.length_range]; exact hi), List.getElem?_map, List.getElem?_range hi]
  rfl
theorem gcl_made {m : Nat → Nat} {y d : Nat} : (gcl m y d).made = m d := by
  unfold gcl
  split <;> rfl
theorem gcls_law {m : Nat → Nat} {y : Nat} (hy : y < 9) (h0 : m 0 = 0) (f : Pl) (x z : Int) (hf : ∀ x y, f x y ≤ 7) : firstFit (gcls m y) (f x z) (surr f x z) = m (f (x + offX y) (z + offY y)) := by
  have h7 := hf (x + offX y) (z + offY y)
  have hb : ∀ j, j < 7 → j + 1 ≠ f (x + offX y) (z + offY y) → ∀ c', (gcls m y)[j]? = some c' → fitsC c' (f x z) (surr f x z) = false := by
    intro j hj hne c' hc
    rw [gcls_at hj] at hc
    obtain rfl := Option.some.inj hc
    rw [fits_gcl hy (by omega)]
    exact decide_eq_false hne
  by_cases hv : f (x + offX y) (z + offY y) = 0
  · by_cases h8 : y < 8
    · rw [hv, h0]
      have hl : (gcls m y)[7]? = some ⟨none, [], 0⟩ := by
        unfold gcls
        rw [if_pos h8, List.getElem?_append_right (by rw [List.length_map, List.length_range]; exact Nat.le_refl _), List.length_map, List.length_range]
        rfl
      exact (firstFit_at (i := 7) (fun j hj => hb j hj (by omega)) hl rfl).trans rfl
    · obtain rfl : y = 8 := by omega
      have e : f (x + offX 8) (z + offY 8) = f x z := by
        show f (x + 0) (z + 0) = _
        rw [Int.add_zero, Int.add_zero]
      rw [hv, h0, firstFit_none fun j c' hc => ?_]
      · rw [← e]; exact hv
      · refine hb j ?_ (by omega) c' hc
        have := (List.getElem?_eq_some_iff.mp hc).1
        unfold gcls at this
        rw [List.length_append, List.length_map, List.length_range] at this
        exact this
  · have h1 : f (x + offX y) (z + offY y) - 1 < 7 := by omega
    rw [firstFit_at (i := f (x + offX y) (z + offY y) - 1) (fun j hj => hb j (by omega) (by omega)) (gcls_at h1) ?_, gcl_made]
    · rw [Nat.sub_add_cancel (by omega)]
    · rw [fits_gcl hy (by omega)]
      exact decide_eq_true (by omega)
theorem offs9 : ∀ y, y < 9 → (-1 ≤ offX y ∧ offX y ≤ 1) ∧ (-1 ≤ offY y ∧ offY y ≤ 1) := by decide
def glOf (m : Nat → Nat) (y : Nat) (h0 : m 0 = 0) (hm : ∀ s, s < 8 → m s < 8) (hy : y < 9) : Gl where
  m := m
  ox := offX y
  oy := offY y
  z := h0
  le := fun s h => by have := hm s (by omega); omega
  hx := (offs9 y hy).1
  hy := (offs9 y hy).2
theorem gcls_gl {m : Nat → Nat} {y : Nat} (h0 : m 0 = 0) (hm : ∀ s, s < 8 → m s < 8) (hy : y < 9) : RuleGl (gcls m y) (glOf m y h0 hm hy) := by
  refine ⟨fun c hc ws hw => ?_, fun f x z hf => gcls_law hy h0 f x z hf⟩
  obtain ⟨i, hi, e⟩ := List.getElem_of_mem hc
  have h2 : (gcls m y)[i]? = some c := by rw [List.getElem?_eq_getElem hi, e]
  have h1 : (gparts m y)[i]? = some ((gparts m y)[i]'(by rw [gcls_len]; exact hi)) := List.getElem?_eq_getElem _
  exact ((gcls_part hy hm h1 h2).2.w ws hw).1
theorem gcls_zero {m : Nat → Nat} {y : Nat} (h0 : m 0 = 0) (hy : y < 9) : firstFit (gcls m y) 0 [0, 0, 0, 0, 0, 0, 0, 0] = 0 :=
  (gcls_law hy h0 (fun _ _ => 0) 0 0 (fun _ _ => Nat.zero_le _)).trans h0
end Jf
/-! JfL6 -/
set_option autoImplicit true
/-! Cells in a dict. -/
namespace Jf
open PySem PySem.Spec PyProof.Rows L2
abbrev C3 : Type := Int × Int × Nat
def keyC (x y : Int) : List Key := kI [x, y]
theorem keyC_inj {a b c d : Int} (h : keyC a b = keyC c d) : a = c ∧ b = d := by
  have h2 : [(Sum.inl a : Key), Sum.inl b] = [Sum.inl c, Sum.inl d] := h
  injection h2 with h3 h4
  injection h4 with h5
  injection h3 with h3
  injection h5 with h5
  exact ⟨h3, h5⟩
def dV (L : List C3) : List (List Key × V) := L.map fun c => (keyC c.1 c.2.1, .int (c.2.2 : Nat))
def putL (L : List C3) (c : C3) : List C3 := if (L.any fun d => decide (d.1 = c.1 ∧ d.2.1 = c.2.1)) = true then L.map (fun d => if d.1 = c.1 ∧ d.2.1 = c.2.1 then c else d) else L ++ [c]
def ndK (L : List C3) : Prop := (L.map fun c => (c.1, c.2.1)).Nodup
theorem putK_dV (L : List C3) (c : C3) : putK (dV L) (keyC c.1 c.2.1) (.int (c.2.2 : Nat)) = dV (putL L c) := by
  have e : ((dV L).any fun kv => decide (kv.1 = keyC c.1 c.2.1)) = (L.any fun d => decide (d.1 = c.1 ∧ d.2.1 = c.2.1)) := by
    unfold dV
    rw [List.any_map]
    congr 1
    funext d
    show decide (keyC d.1 d.2.1 = keyC c.1 c.2.1) = _
    by_cases h : d.1 = c.1 ∧ d.2.1 = c.2.1
    · rw [decide_eq_true h, decide_eq_true (by rw [h.1, h.2])]
    · rw [decide_eq_false h, decide_eq_false (fun z => h (keyC_inj z))]
  unfold putK putL
  rw [e]
  by_cases h : (L.any fun d => decide (d.1 = c.1 ∧ d.2.1 = c.2.1)) = true
  · rw [if_pos h, if_pos h]
    unfold dV
    rw [List.map_map, List.map_map]
    refine List.map_congr_left fun d _ => ?_
    show (if keyC d.1 d.2.1 = keyC c.1 c.2.1 then (keyC d.1 d.2.1, V.int (c.2.2 : Nat)) else (keyC d.1 d.2.1, V.int (d.2.2 : Nat))) = (fun c : C3 => (keyC c.1 c.2.1, V.int (c.2.2 : Nat))) (if d.1 = c.1 ∧ d.2.1 = c.2.1 then c else d)
    by_cases q : d.1 = c.1 ∧ d.2.1 = c.2.1
    · rw [if_pos q, if_pos (by rw [q.1, q.2]), q.1, q.2]
    · rw [if_neg q, if_neg (fun z => q (keyC_inj z))]
  · rw [if_neg h, if_neg h]
    unfold dV
    rw [List.map_append]
    rfl
theorem putL_len (L : List C3) (c : C3) : (putL L c).length ≤ L.length + 1 := by
  unfold putL
  split
  · rw [List.length_map]; omega
  · rw [List.length_append, List.length_singleton]; omega
theorem putL_mem {L : List C3} {c d : C3} (h : d ∈ putL L c) : d ∈ L ∨ d = c := by
  unfold putL at h
  split at h
  · obtain ⟨e, he, q⟩ := List.mem_map.mp h
    split at q
    · exact .inr q.symm
    · exact .inl (q ▸ he)
  · rcases List.mem_append.mp h with h | h
    · exact .inl h
    · exact .inr (List.mem_singleton.mp h)
theorem putL_nd {L : List C3} {c : C3} (h : ndK L) : ndK (putL L c) := by
  unfold putL
  by_cases q : (L.any fun d => decide (d.1 = c.1 ∧ d.2.1 = c.2.1)) = true
  · rw [if_pos q]
    show (List.map _ _).Nodup
    rw [List.map_map]
    have e : (L.map ((fun c : C3 => (c.1, c.2.1)) ∘ fun d : C3 => if d.1 = c.1 ∧ d.2.1 = c.2.1 then c else d)) = L.map fun c => (c.1, c.2.1) := List.map_congr_left fun d _ => by
      show (fun c : C3 => (c.1, c.2.1)) (if d.1 = c.1 ∧ d.2.1 = c.2.1 then c else d) = (d.1, d.2.1)
      split
      · rename_i z; show (c.1, c.2.1) = _; rw [z.1, z.2]
      · rfl
    rw [e]
    exact h
  · rw [if_neg q]
    show (List.map _ _).Nodup
    rw [List.map_append, List.nodup_append]
    refine ⟨h, by simp, fun a ha b hb z => q ?_⟩
    obtain ⟨d, hd, rfl⟩ := List.mem_map.mp ha
    have hb2 := List.mem_singleton.mp hb
    rw [hb2] at z
    injection z with z1 z2
    exact List.any_eq_true.mpr ⟨d, hd, decide_eq_true ⟨z1, z2⟩⟩
theorem putL_new {L : List C3} {c : C3} (h : ∀ d ∈ L, ¬ (d.1 = c.1 ∧ d.2.1 = c.2.1)) : putL L c = L ++ [c] := by
  unfold putL
  refine if_neg fun q => ?_
  obtain ⟨d, hd, z⟩ := List.any_eq_true.mp q
  exact h d hd (of_decide_eq_true z)
theorem dV_at {L : List C3} {i : Nat} {k : List Key} {v : V} (h : (dV L)[i]? = some (k, v)) : ∃ c, L[i]? = some c ∧ k = keyC c.1 c.2.1 ∧ v = .int (c.2.2 : Nat) := by
  unfold dV at h
  rw [List.getElem?_map] at h
  cases q : L[i]? with
  | none => rw [q] at h; cases h
  | some c =>
    rw [q] at h
    injection h with h
    injection h with h1 h2
    exact ⟨c, rfl, h1.symm, h2.symm⟩
theorem valV_dV : ∀ {L : List C3}, ndK L → ∀ {c : C3}, c ∈ L → valV (dV L) (keyC c.1 c.2.1) = some (.int (c.2.2 : Nat))
  | [], _, c, h => by cases h
  | d :: L, nd, c, h => by
    have nd2 : (d.1, d.2.1) ∉ L.map (fun c : C3 => (c.1, c.2.1)) ∧ ndK L := List.nodup_cons.mp nd
    rcases List.mem_cons.mp h with rfl | h
    · exact valV_pos rfl
    · refine (valV_neg fun z => ?_).trans (valV_dV nd2.2 h)
      obtain ⟨z1, z2⟩ := keyC_inj z
      exact nd2.1 (List.mem_map.mpr ⟨c, h, by rw [z1, z2]⟩)
end Jf
/-! JfC2 -/
set_option autoImplicit true
/-! cells_of. -/
namespace Jf
open PySem PySem.Spec PyProof.Rows L2
/-- the search for living cells -/
structure Srch (K : PySem.W.Frag) (S : Q → Prop) (g : Addr) (w : GWd) (O : Hp) (F Wt : Addr) (f : Pl) (k : Nat) (O' H' : Hp) (Fd : List (Int × Int × Nat)) (St : List SEn) : Prop where
  gv : GV K S g w O' H'
  sm : Same O O'
  fd : CellsAt O' F Fd
  wt : TupsAt O' Wt (St.map SEn.tp)
  en : ∀ e ∈ St, w.cs[e.i]? = some (win f e.j e.x e.y)
  lv : ∀ (n : Nat) e, St[n]? = some e → n + 3 * e.j ≤ 3 * k
  pm : (Fd ++ stkCells f St).Perm (cellsQ (cw f k) k (-(p2 (k - 1))) (-(p2 (k - 1))))
section
variable {P : Program} {w : World} {K : PySem.W.Frag} {mg : Str → Option Value} {base : Heap} {S : Q → Prop}
theorem CellsAt.sc {H : Hp} {c : Addr} {L : List (Int × Int × Nat)} (h : CellsAt H c L) : ∃ bs : List SC, H c = some (.lst (bs.map fun b => V.ref b.1)) ∧ bs.map (fun b => b.2) = L ∧ ∀ b ∈ bs, H b.1 = some (.tup [.int b.2.1, .int b.2.2.1, .int (b.2.2.2 : Nat)]) := by
  obtain ⟨ps, h1, h2, h3⟩ := h
  refine ⟨ps.zip L, ?_, ?_, fun b hb => ?_⟩
  · rw [h1]
    congr 2
    have e : (ps.zip L).map Prod.fst = ps := List.map_fst_zip (by omega)
    rw [show (fun b : SC => V.ref b.1) = V.ref ∘ Prod.fst from rfl, ← List.map_map, e]
  · exact List.map_snd_zip (by omega)
  · obtain ⟨i, hi⟩ := List.getElem?_of_mem hb
    rw [List.getElem?_zip_eq_some] at hi
    obtain ⟨p, x, y, s⟩ := b
    exact h3 i p x y s hi.1 hi.2
theorem CellsAt.ofSC {H : Hp} {c : Addr} {bs : List SC} (h : H c = some (.lst (bs.map fun b => V.ref b.1))) (hb : ∀ b ∈ bs, H b.1 = some (.tup [.int b.2.1, .int b.2.2.1, .int (b.2.2.2 : Nat)])) : CellsAt H c (bs.map fun b => b.2) := by
  refine ⟨bs.map fun b => b.1, by rw [h, List.map_map]; rfl, by rw [List.length_map, List.length_map], fun i p x y s h1 h2 => ?_⟩
  rw [List.getElem?_map] at h1 h2
  cases q : bs[i]? with
  | none => rw [q] at h1; cases h1
  | some b =>
    rw [q] at h1 h2
    have e1 : b.1 = p := Option.some.inj h1
    have e2 : b.2 = (x, y, s) := Option.some.inj h2
    have := hb b (List.mem_of_getElem? q)
    rw [e2, e1] at this
    exact this
theorem leC_le {p q : SC} : leC p q = true ↔ (p.2.2.1 < q.2.2.1 ∨ (p.2.2.1 = q.2.2.1 ∧ p.2.1 ≤ q.2.1)) := decide_eq_true_iff
theorem sorted_listed {f : Pl} {bs : List SC} (nd : (bs.map fun b => b.2).Nodup) (hm : ∀ u v s, (u, v, s) ∈ (bs.map fun b => b.2) ↔ f u v = s ∧ s ≠ 0) : Listed f ((bs.mergeSort leC).map fun b => b.2) := by
  have pm : ((bs.mergeSort leC).map fun b => b.2).Perm (bs.map fun b => b.2) := (List.mergeSort_perm bs leC).map _
  refine ⟨fun u v s => (pm.mem_iff).trans (hm u v s), pm.nodup_iff.mpr nd, ?_⟩
  rw [List.pairwise_map]
  have h := List.pairwise_mergeSort (le := leC) (fun a b c h1 h2 => by
    rw [leC_le] at h1 h2 ⊢
    omega) (fun a b => by
    have : leC a b = true ∨ leC b a = true := by
      rw [leC_le, leC_le]
      omega
    simpa using this) bs
  exact h.imp fun h => leC_le.mp h
def spCellsOf (K : PySem.W.Frag) (S : Q → Prop) : Sp := fun vs H Qk _ => ∃ (g : Addr) (w : GWd) (O : Hp) (i : Nat) (f : Pl) (k : Nat), vs = [.ref g, .int (i : Nat)] ∧ GV K S g w O H ∧ w.cs[i]? = some (cw f k) ∧ 1 ≤ k ∧ sup f k ∧ lives (cw f k) ≤ 4096 ∧
  ∀ (p : Addr) (L : List (Int × Int × Nat)) O' H', GV K S g w O' H' → Same O O' → CellsAt O' p L → Listed f L → Qk (.ref p) H'
theorem sc_cells_of : FnScope [("grove" : Str), ("field" : Str), ("half" : Str), ("found" : Str), ("waiting" : Str), ("square" : Str), ("x" : Str), ("y" : Str), ("level" : Str), ("at" : Str), ("one" : Str)] ["grove", "field"] (defScope s_cells_of) := ⟨rfl, rfl, rfl, by decide +kernel, rfl, by decide +kernel, by decide +kernel⟩
theorem ok_cells_of (T : Txt K mg) : Ok P w K mg base ("cells_of", none) ["grove", "field"] 5 (spCellsOf K S) := by
  obtain ⟨fd_Grove_living, G_Grove_living, b_Grove_living, k_Grove_living⟩ := ok_Grove_living (P := P) (w := w) (base := base) (S := S) T
  obtain ⟨fd_Grove_level_of, G_Grove_level_of, b_Grove_level_of, k_Grove_level_of⟩ := ok_Grove_level_of (P := P) (w := w) (base := base) (S := S) T
  obtain ⟨fd_Grove_state_of, G_Grove_state_of, b_Grove_state_of, k_Grove_state_of⟩ := ok_Grove_state_of (P := P) (w := w) (base := base) (S := S) T
  obtain ⟨fd_Grove_quarters, G_Grove_quarters, b_Grove_quarters, k_Grove_quarters⟩ := ok_Grove_quarters (P := P) (w := w) (base := base) (S := S) T
  obtain ⟨fd_by_rows, G_by_rows, b_by_rows, k_by_rows⟩ := ok_by_rows (P := P) (w := w) (base := base) T
  refine Ok.of T.d_cells_of sc_cells_of (fun vs H Q E h => ?_) (fun cdv A outer s H vs Q E hr h => ?_)
  · obtain ⟨g, w, O, i, f, k, rfl, _⟩ := h
    rfl
  obtain ⟨g, w, O, i, f, k, rfl, ⟨s, G⟩, hi, h1, hs, h4, q⟩ := h
  obtain ⟨dx, hg⟩ := G.ob
  have h48 := G.lev_le hi
  rw [lev_cw] at h48
  obtain ⟨k, rfl⟩ : ∃ j, k = j + 1 := ⟨k - 1, by omega⟩
  refine ⟨_, (pss_cons (ps_if (pt_cmpR op_gt (pe_meth (pv 0) T.c_Grove T.m_Grove_living G_Grove_living (hr.mono (by omega)) b_Grove_living .nil pass0 (pa_cons (pv 1) pa_nil)) (pe_glob (v := .int 4096) (by rfl) T.i_MOST.choose_spec ⟨_, rfl⟩) (nomark _)) (pss_one ps_never) pss_nil)
      (pss_cons (ps_set (i := 2) sc_cells_of.nd rfl (Or.inl rfl) (pe_op op_shl pe_int (pe_op op_sub (pe_meth (pv 0) T.c_Grove T.m_Grove_level_of G_Grove_level_of (hr.mono (by omega)) b_Grove_level_of .nil pass0 (pa_cons (pv 1) pa_nil)) pe_int)))
      (pss_cons (ps_set (i := 3) sc_cells_of.nd rfl (Or.inl rfl) (pe_lst pa_nil))
      (pss_cons (ps_set (i := 4) sc_cells_of.nd rfl (Or.inl rfl) (pe_lst (pa_cons (pe_tup (pa_cons (pv 1) (pa_cons (pe_un un_neg (pv 2)) (pa_cons (pe_un un_neg (pv 2)) pa_nil)))) pa_nil)))
      (pss_cons (ps_while PassesOwn.never (pt_cmpR op_gt (pe_callB call_len_seq (by rfl) T.f_len (by decide +kernel) (pa_cons (pv 4) pa_nil)) pe_int (nomark _)) (pss_cons (ps_asg (pe_bm0 PySem.F.plainAttrs_list PySem.F.slot_list_pop PySem.F.type_list_pop mt_pop (pv 4)) (pg_tup (by rfl) (pgs_cons (pg_name (i := 5) sc_cells_of.nd rfl (Or.inl rfl)) (pgs_cons (pg_name (i := 6) sc_cells_of.nd rfl (Or.inl rfl)) (pgs_cons (pg_name (i := 7) sc_cells_of.nd rfl (Or.inl rfl)) pgs_nil)))))
      (pss_cons (ps_set (i := 8) sc_cells_of.nd rfl (Or.inl rfl) (pe_meth (pv 0) T.c_Grove T.m_Grove_level_of G_Grove_level_of (hr.mono (by omega)) b_Grove_level_of .nil pass0 (pa_cons (pv 5) pa_nil)))
      (pss_cons (ps_if (PW.pt (pw_and (pt_cmpR op_eq (pv 8) pe_int (nomark _)) (pw_and1 (pt_cmpR op_gt (pe_meth (pv 0) T.c_Grove T.m_Grove_state_of G_Grove_state_of (hr.mono (by omega)) b_Grove_state_of .nil pass0 (pa_cons (pv 5) pa_nil)) pe_int (nomark _))))) (pss_one (ps_expr (pe_bm PySem.F.plainAttrs_list PySem.F.slot_list_append PySem.F.type_list_append mt_append (pv 3) (pa_cons (pe_tup (pa_cons (pv 6) (pa_cons (pv 7) (pa_cons (pe_meth (pv 0) T.c_Grove T.m_Grove_state_of G_Grove_state_of (hr.mono (by omega)) b_Grove_state_of .nil pass0 (pa_cons (pv 5) pa_nil)) pa_nil)))) pa_nil)))) pss_nil)
      (pss_one (ps_if (PW.pt (pw_and (pt_cmpR op_gt (pv 8) pe_int (nomark _)) (pw_and1 (pt_cmpR op_gt (pe_meth (pv 0) T.c_Grove T.m_Grove_living G_Grove_living (hr.mono (by omega)) b_Grove_living .nil pass0 (pa_cons (pv 5) pa_nil)) pe_int (nomark _))))) (pss_cons (ps_set (i := 2) sc_cells_of.nd rfl (Or.inl rfl) (pe_op op_shl pe_int (pe_op op_sub (pv 8) pe_int)))
      (pss_one (ps_for PassesOwn.never (by rfl) (pi_enumT (by rfl) T.f_enumerate (pa_cons (pe_meth (pv 0) T.c_Grove T.m_Grove_quarters G_Grove_quarters (hr.mono (by omega)) b_Grove_quarters .nil pass0 (pa_cons (pv 5) pa_nil)) pa_nil)) (pg_tup (by rfl) (pgs_cons (pg_name (i := 9) sc_cells_of.nd rfl (Or.inl rfl)) (pgs_cons (pg_name (i := 10) sc_cells_of.nd rfl (Or.inl rfl)) pgs_nil))) (pss_one (ps_expr (pe_bm PySem.F.plainAttrs_list PySem.F.slot_list_append PySem.F.type_list_append mt_append (pv 4) (pa_cons (pe_tup (pa_cons (pv 10) (pa_cons (pe_op op_add (pv 6) (pe_op op_mul (pv 2) (pe_op op_mod (pv 9) pe_int))) (pa_cons (pe_op op_add (pv 7) (pe_op op_mul (pv 2) (pe_op op_fdiv (pv 9) pe_int))) pa_nil)))) pa_nil))))))) pss_nil))))))
      (pss_one (ps_ret (pe_callBK (cr_sortedBy G_by_rows b_by_rows (hr.mono (by omega))) (by rfl) T.f_sorted (by decide +kernel) (pa_cons (pv 3) pa_nil) (pk_cons (pe_glob (v := .ref (He.fAd K (("by_rows" : Str), none))) (by rfl) T.g_by_rows rfl) pk_nil))))))))), ?_⟩
  refine ⟨_, rfl, g, dx, _, rfl, G.sub hg, by rfl, _, rfl, g, w, O, i, _, rfl, ⟨s, G⟩, hi, _, _, rfl, rfl, _, rfl, ?_⟩
  rw [decide_eq_false (show ¬ (((lives (cw f (k + 1)) : Nat) : Int) > 4096) by omega)]
  refine iteF ?_
  refine ⟨_, rfl, g, dx, _, rfl, G.sub hg, by rfl, _, rfl, g, w, O, i, _, rfl, ⟨s, G⟩, hi, ?_⟩
  rw [lev_cw]
  refine ⟨_, _, rfl, rfl, _, _, rfl, rfl, shlP (by omega), ?_⟩
  dsimp only
  rw [shl_pred]
  refine ⟨Nat.zero_le _, fun F hF => ?_⟩
  have G1 := G.new hF (.lst [])
  refine ⟨_, rfl, _, rfl, _, rfl, _, rfl, _, rfl, (by show 3 ≤ sizeLine; decide), fun u hu => ?_⟩
  have G2 := G1.new hu (.tup [.int (i : Nat), .int (-(p2 k)), .int (-(p2 k))])
  refine ⟨by show 1 ≤ sizeLine; decide, fun Wt hW => ?_⟩
  have G3 := G2.new hW (.lst [.ref u])
  have nFu : F ≠ u := ne_of_none upd_same hu
  have nFW : F ≠ Wt := ne_of_none (by rw [upd_ne nFu]; exact upd_same) hW
  have nuW : u ≠ Wt := ne_of_none upd_same hW
  have fF := G.fresh hF
  have fu := G1.fresh hu
  have fW := G2.fresh hW
  have oF : O F = none := fF
  have oW : O Wt = none := by
    rw [upd_ne (Ne.symm nuW), upd_ne (Ne.symm nFW)] at fW
    exact fW
  have S0 : Srch K S g w O F Wt f (k + 1) (upd (upd (upd O F (.lst [])) u (.tup [.int (i : Nat), .int (-(p2 k)), .int (-(p2 k))])) Wt (.lst [.ref u])) (upd (upd (upd H F (.lst [])) u (.tup [.int (i : Nat), .int (-(p2 k)), .int (-(p2 k))])) Wt (.lst [.ref u])) [] [⟨i, -(p2 k), -(p2 k), k + 1⟩] := by
    refine ⟨⟨s, G3⟩, (same_new fF _).trans ((same_new fu _).trans (same_new fW _)), ⟨[], by rw [upd_ne nFW, upd_ne nFu, upd_same]; rfl, rfl, fun i p x y s h => by cases h⟩, ⟨[u], upd_same, rfl, fun n p t h1 h2 => ?_⟩, fun e he => ?_, fun n e he => ?_, ?_⟩
    · have n0 : n = 0 := by have := (List.getElem?_eq_some_iff.mp h1).1; simpa using this
      subst n0
      obtain rfl : u = p := Option.some.inj h1
      obtain rfl : SEn.tp ⟨i, -(p2 k), -(p2 k), k + 1⟩ = t := Option.some.inj h2
      rw [upd_ne nuW, upd_same]
      rfl
    · rw [List.mem_singleton.mp he]; exact hi
    · have n0 : n = 0 := by have := (List.getElem?_eq_some_iff.mp he).1; simpa using this
      subst n0
      obtain rfl : (⟨i, -(p2 k), -(p2 k), k + 1⟩ : SEn) = e := Option.some.inj he
      show 0 + 3 * (k + 1) ≤ 3 * (k + 1)
      omega
    · show ([] ++ (cellsQ (win f (k + 1) (-(p2 k)) (-(p2 k))) (k + 1) (-(p2 k)) (-(p2 k)) ++ [])).Perm _
      rw [List.nil_append, List.append_nil]
      exact List.Perm.refl _
  refine ⟨fun μ σ' H' => ∃ (O' : Hp) (Fd : List (Int × Int × Nat)) (St : List SEn) (v2 v5 v6 v7 v8 v9 v10 : Option V), σ' = [some (.ref g), some (.int (i : Nat)), v2, some (.ref F), some (.ref Wt), v5, v6, v7, v8, v9, v10] ∧ Srch K S g w O F Wt f (k + 1) O' H' Fd St ∧ μ = stkW St,
    ⟨_, _, [], _, _, none, none, none, none, none, none, rfl, S0, rfl⟩, ?_⟩
  rintro μ σ1 H1 ⟨O1, Fd, St, v2, v5, v6, v7, v8, v9, v10, rfl, ⟨⟨s1, G4⟩, m1, hFd, hWt, hen, hlv, hpm⟩, rfl⟩
  obtain ⟨lw, hlw, llw⟩ := hWt.lst
  obtain ⟨dx1, hg1⟩ := G4.ob
  rw [List.length_map] at llw
  refine ⟨_, rfl, Wt, _, rfl, .inl (SqL.of (G4.sub hlw)), _, _, rfl, rfl, _, rfl, ite2 (fun c => ?_) (fun c => ?_)⟩
  · have c1 : ((lw.length : Nat) : Int) > 0 := of_decide_eq_true c
    obtain ⟨St0, e, rfl⟩ : ∃ l x, St = l ++ [x] := by
      rcases List.eq_nil_or_concat St with z | ⟨l, x, z⟩
      · rw [z] at llw
        rw [llw] at c1
        exact absurd c1 (by decide)
      · exact ⟨l, x, by rw [z, List.concat_eq_append]⟩
    obtain ⟨ei, ex, ey, ej⟩ := e
    have hei : w.cs[ei]? = some (win f ej ex ey) := hen _ (List.mem_append_right _ (List.mem_singleton.mpr rfl))
    have hlv0 : St0.length + 3 * ej ≤ 3 * (k + 1) := hlv St0.length _ (by rw [List.getElem?_append_right (Nat.le_refl _), Nat.sub_self]; rfl)
    have hWt' := hWt
    rw [List.map_append] at hWt'
    obtain ⟨ps, p, q1, q2, q3, q4⟩ := TupsAt.pop hWt'
    refine ⟨fun σ' H' => ∃ μ', μ' < stkW (St0 ++ [⟨ei, ex, ey, ej⟩]) ∧ ∃ (O' : Hp) (Fd : List (Int × Int × Nat)) (St : List SEn) (v2 v5 v6 v7 v8 v9 v10 : Option V), σ' = [some (.ref g), some (.int (i : Nat)), v2, some (.ref F), some (.ref Wt), v5, v6, v7, v8, v9, v10] ∧ Srch K S g w O F Wt f (k + 1) O' H' Fd St ∧ μ' = stkW St, fun _ _ h => h, ?_⟩
    -- waiting.pop()
    have nWg : Wt ≠ g := fun z => by
      obtain ⟨l, hl, _⟩ := hWt.lst
      rw [z, hg1] at hl; cases hl
    have G5 := G4.mut q1 nWg (fun xs z => by cases z) (.lst (ps.map V.ref))
    have hFd5 : CellsAt (upd O1 Wt (.lst (ps.map V.ref))) F Fd := hFd.offL nFW q1 _
    have m5 : Same O (upd O1 Wt (.lst (ps.map V.ref))) := fun b o z => by rw [upd_ne (ne_of_none z oW)]; exact m1 b o z
    obtain ⟨dx5, hg5⟩ := G5.ob
    refine ⟨_, rfl, .inl ⟨rfl, _, SqL.of (G4.sub q1)⟩, Wt, _, _, rfl, rfl, G4.sub q1, by rw [List.length_append, List.length_singleton, Nat.add_sub_cancel, List.getElem?_append_right (Nat.le_refl _), Nat.sub_self]; rfl, ?_⟩
    rw [List.dropLast_concat]
    refine ⟨p, _, rfl, SqT.of (by rw [upd_ne q3]; exact G4.sub q2), rfl, _, _, rfl, _, _, rfl, _, _, rfl, rfl, ?_⟩
    refine ⟨_, rfl, g, dx5, _, rfl, G5.sub hg5, by rfl, _, rfl, g, w, _, ei, _, rfl, ⟨s1, G5⟩, hei, ?_⟩
    rw [lev_win]
    have hpm0 : ((Fd ++ stkCells f St0) ++ SEn.cells f ⟨ei, ex, ey, ej⟩).Perm (cellsQ (cw f (k + 1)) (k + 1) (-(p2 (k + 1 - 1))) (-(p2 (k + 1 - 1)))) := by
      rw [stkCells_snoc, ← List.append_assoc] at hpm
      exact hpm
    have len4 : Fd.length ≤ 4096 := by
      have := hpm.length_eq
      rw [List.length_append, cellsQ_length] at this
      omega
    have en0 : ∀ e ∈ St0, w.cs[e.i]? = some (win f e.j e.x e.y) := fun e he => hen e (List.mem_append_left _ he)
    have lv0 : ∀ (n : Nat) e, St0[n]? = some e → n + 3 * e.j ≤ 3 * (k + 1) := fun n e he => hlv n e (by rw [List.getElem?_append_left (List.getElem?_eq_some_iff.mp he).1]; exact he)
    have wlt : stkW St0 < stkW (St0 ++ [⟨ei, ex, ey, ej⟩]) := by
      rw [stkW_snoc]
      have : 0 < 5 ^ ej := Nat.pow_pos (by decide)
      show stkW St0 < stkW St0 + 5 ^ ej
      omega
    refine ⟨_, rfl, rfl, _, rfl, ?_⟩
    by_cases j0 : ej = 0
    · subst j0
      have z0 : ¬ ((0 : Nat) : Int) > 0 := by decide
      refine iteT ?_
      refine ⟨_, rfl, g, dx5, _, rfl, G5.sub hg5, by rfl, _, rfl, g, w, _, ei, _, rfl, ⟨s1, G5⟩, hei, _, _, rfl, rfl, _, rfl, ite2 (fun c2 => ?_) (fun c2 => ?_)⟩
      · have c3 : f ex ey ≠ 0 := fun z => by
          have := of_decide_eq_true c2
          rw [z] at this
          exact absurd this (by decide)
        obtain ⟨psF, f1, f2, f3⟩ := id hFd5
        refine ⟨_, rfl, .inl ⟨rfl, _, SqL.of (G5.sub f1)⟩, _, rfl, _, rfl, _, rfl, g, dx5, _, rfl, G5.sub hg5, by rfl, _, rfl, g, w, _, ei, _, rfl, ⟨s1, G5⟩, hei, (by show 3 ≤ sizeLine; decide), fun u2 hu2 => ?_⟩
        have G6 := G5.new hu2 (.tup [.int ex, .int ey, .int (f ex ey : Nat)])
        obtain ⟨ps6, h6, l6, hF6⟩ := (hFd5.off (G5.fresh hu2) (.tup [.int ex, .int ey, .int (f ex ey : Nat)])).snoc (u := u2) upd_same
        have nFg : F ≠ g := fun z => by rw [z, G.sub hg] at hF; cases hF
        refine ⟨F, _, _, rfl, rfl, G6.sub h6, by rw [List.length_map, l6]; exact Nat.lt_of_le_of_lt len4 (by show 4096 < sizeLine; decide), ?_⟩
        have G7 := G6.mut h6 nFg (fun xs z => by cases z) (.lst (ps6.map V.ref ++ [.ref u2]))
        have hW7 := ((q4.same (same_new (G5.fresh hu2) (.tup [.int ex, .int ey, .int (f ex ey : Nat)]))).off (Ne.symm nFW) h6 (.lst (ps6.map V.ref ++ [.ref u2])))
        refine ⟨_, rfl, _, _, rfl, rfl, _, rfl, iteF (iteF ?_)⟩
        refine ⟨stkW St0, wlt, _, Fd ++ [(ex, ey, f ex ey)], St0, _, _, _, _, _, _, _, rfl, ⟨⟨s1, G7⟩, fun b o z => ?_, hF6, hW7, en0, lv0, ?_⟩, rfl⟩
        · rw [upd_ne (ne_of_none z oF)]
          exact (same_new (G5.fresh hu2) _) _ _ (m5 b o z)
        · have ec : SEn.cells f ⟨ei, ex, ey, 0⟩ = [(ex, ey, f ex ey)] := if_neg c3
          rw [ec] at hpm0
          refine List.Perm.trans ?_ hpm0
          rw [List.append_assoc, List.append_assoc]
          exact List.Perm.append_left Fd List.perm_append_comm
      · have c3 : f ex ey = 0 := by
          have : ¬ ((f ex ey : Nat) : Int) > 0 := of_decide_eq_false (Bool.eq_false_iff.mpr c2)
          omega
        refine ⟨_, rfl, _, _, rfl, rfl, _, rfl, iteF (iteF ?_)⟩
        refine ⟨stkW St0, wlt, _, Fd, St0, _, _, _, _, _, _, _, rfl, ⟨⟨s1, G5⟩, m5, hFd5, q4, en0, lv0, ?_⟩, rfl⟩
        have ec : SEn.cells f ⟨ei, ex, ey, 0⟩ = [] := if_pos c3
        rw [ec, List.append_nil] at hpm0
        exact hpm0
    · obtain ⟨j, rfl⟩ : ∃ j, ej = j + 1 := ⟨ej - 1, by omega⟩
      have z : ¬ V.int ((j + 1 : Nat) : Int) = V.int 0 := fun e => by injection e with e; omega
      rw [decide_eq_false z]
      refine iteF (iteF ?_)
      refine ⟨_, rfl, _, _, rfl, rfl, _, rfl, ?_⟩
      rw [decide_eq_true (show ((j + 1 : Nat) : Int) > 0 by omega)]
      refine iteT ?_
      refine ⟨_, rfl, g, dx5, _, rfl, G5.sub hg5, by rfl, _, rfl, g, w, _, ei, _, rfl, ⟨s1, G5⟩, hei, _, _, rfl, rfl, _, rfl, ite2 (fun c2 => ?_) (fun c2 => ?_)⟩
      · have hei' := hei
        rw [win_succ] at hei'
        have j48 : j + 1 ≤ 48 := by have := G5.lev_le hei; rw [lev_win] at this; exact this
        refine ⟨_, rfl, _, _, rfl, rfl, _, _, rfl, rfl, shlP (by omega), ?_⟩
        dsimp only
        rw [shl_pred]
        refine ⟨_, rfl, g, dx5, _, rfl, G5.sub hg5, by rfl, _, rfl, g, w, _, ei, _, _, _, _, rfl, ⟨s1, G5⟩, hei', fun pq i0 i1 i2 i3 eq z0 z1 z2 z3 => ?_⟩
        have hQ : ∀ e ∈ fourE i0 i1 i2 i3 ex ey j, w.cs[e.i]? = some (win f e.j e.x e.y) ∧ e.j = j := fun e he => by
          unfold fourE at he
          simp only [List.mem_cons, List.not_mem_nil, or_false] at he
          rcases he with rfl | rfl | rfl | rfl
          · exact ⟨z0, rfl⟩
          · exact ⟨z1, rfl⟩
          · exact ⟨z2, rfl⟩
          · exact ⟨z3, rfl⟩
        refine ⟨pq, _, rfl, SqT.of (G5.sub eq), for_it (walk_enumT (K := K) (a := pq) (xs := [.int (i0 : Nat), .int (i1 : Nat), .int (i2 : Nat), .int (i3 : Nat)])) (fun n σ' H' => ∃ (O' : Hp) (v9 v10 : Option V), σ' = [some (.ref g), some (.int (i : Nat)), some (.int (p2 j)), some (.ref F), some (.ref Wt), some (.int (ei : Nat)), some (.int ex), some (.int ey), some (.int ((j + 1 : Nat) : Int)), v9, v10] ∧
            GVs K S g w s1 O' H' ∧ Same O O' ∧ CellsAt O' F Fd ∧ TupsAt O' Wt ((St0 ++ (fourE i0 i1 i2 i3 ex ey j).take n).map SEn.tp) ∧ O' pq = some (.tup [.int (i0 : Nat), .int (i1 : Nat), .int (i2 : Nat), .int (i3 : Nat)]))
          ⟨_, _, _, rfl, G5, m5, hFd5, by rw [List.take_zero, List.append_nil]; exact q4, eq⟩ (fun n σ' H' _ ⟨O', _, _, _, G', _, _, _, hq⟩ => SqT.of (G'.sub hq)) ?_ ?_⟩
        · rintro n v σ' H' H'' hn ⟨O', v9, v10, rfl, G', m', hF', hW', hq'⟩ ⟨t, x1, x2, rfl, ht, rfl, hx1, hx2⟩
          have hn4 : n < 4 := hn
          obtain rfl : V.int (n : Nat) = x1 := Option.some.inj hx1
          have sel : ∃ e, (fourE i0 i1 i2 i3 ex ey j)[n]? = some e ∧ x2 = .int (e.i : Nat) ∧ ex + p2 j * ((n : Int) % 2) = e.x ∧ ey + p2 j * ((n : Int) / 2) = e.y := by
            rcases (show n = 0 ∨ n = 1 ∨ n = 2 ∨ n = 3 by omega) with rfl | rfl | rfl | rfl
            · exact ⟨_, rfl, (Option.some.inj hx2).symm, by show ex + p2 j * 0 = ex; rw [Int.mul_zero, Int.add_zero], by show ey + p2 j * 0 = ey; rw [Int.mul_zero, Int.add_zero]⟩
            · exact ⟨_, rfl, (Option.some.inj hx2).symm, by show ex + p2 j * 1 = ex + p2 j; rw [Int.mul_one], by show ey + p2 j * 0 = ey; rw [Int.mul_zero, Int.add_zero]⟩
            · exact ⟨_, rfl, (Option.some.inj hx2).symm, by show ex + p2 j * 0 = ex; rw [Int.mul_zero, Int.add_zero], by show ey + p2 j * 1 = ey + p2 j; rw [Int.mul_one]⟩
            · exact ⟨_, rfl, (Option.some.inj hx2).symm, by show ex + p2 j * 1 = ex + p2 j; rw [Int.mul_one], by show ey + p2 j * 1 = ey + p2 j; rw [Int.mul_one]⟩
          obtain ⟨e, he, rfl, hex, hey⟩ := sel
          have G6 := G'.new ht (.tup [.int (n : Nat), .int (e.i : Nat)])
          have fT := G'.fresh ht
          have hW6 := hW'.same (same_new fT (.tup [.int (n : Nat), .int (e.i : Nat)]))
          obtain ⟨psW, w1, w2, w3⟩ := id hW6
          refine ⟨t, _, rfl, SqT.of upd_same, rfl, _, _, rfl, _, _, rfl, rfl, ?_⟩
          refine ⟨_, rfl, .inl ⟨rfl, _, SqL.of (G6.sub w1)⟩, _, rfl, ?_⟩
          refine ⟨_, rfl, _, rfl, _, rfl, _, _, rfl, rfl, (by show (0 : Int) < 2; decide), _, _, rfl, rfl, .inr ⟨by omega, by omega⟩, _, _, rfl, rfl, ?_⟩
          refine ⟨_, rfl, _, rfl, _, rfl, _, _, rfl, rfl, ⟨by decide, by decide⟩, _, _, rfl, rfl, .inr ⟨by omega, by omega⟩, _, _, rfl, rfl, ?_⟩
          dsimp only
          rw [hex, hey]
          refine ⟨(by show 3 ≤ sizeLine; decide), fun u2 hu2 => ?_⟩
          have G7 := G6.new hu2 (.tup [.int (e.i : Nat), .int e.x, .int e.y])
          obtain ⟨ps7, h7, l7, hW7⟩ := (hW6.same (same_new (G6.fresh hu2) (.tup [.int (e.i : Nat), .int e.x, .int e.y]))).snoc (u := u2) (t := SEn.tp e) upd_same
          have lQ : ((fourE i0 i1 i2 i3 ex ey j).take n).length ≤ 4 := by rw [List.length_take]; exact Nat.le_trans (Nat.min_le_right _ _) (Nat.le_refl 4)
          refine ⟨Wt, _, _, rfl, rfl, G7.sub h7, ?_, ?_⟩
          · rw [List.length_map, l7, List.length_map, List.length_append]
            exact small1000 (by omega)
          have G8 := G7.mut h7 nWg (fun xs z => by cases z) (.lst (ps7.map V.ref ++ [.ref u2]))
          have ntW : t ≠ Wt := fun z => by
            rw [z] at fT
            obtain ⟨l, hl, _⟩ := hW'.lst
            rw [fT] at hl; cases hl
          refine ⟨_, _, _, rfl, G8, fun b o z => ?_, ?_, ?_, ?_⟩
          · rw [upd_ne (ne_of_none z oW)]
            exact (same_new (G6.fresh hu2) _) _ _ ((same_new fT _) _ _ (m' b o z))
          · exact ((hF'.same (same_new fT _)).same (same_new (G6.fresh hu2) _)).offL nFW h7 _
          · rw [List.take_succ, he, ← List.append_assoc, List.map_append]
            exact hW7
          · have npW : pq ≠ Wt := fun z => by
              rw [z] at hq'
              obtain ⟨l, hl, _⟩ := hW'.lst
              rw [hq'] at hl; cases hl
            rw [upd_ne npW]
            exact (same_new (G6.fresh hu2) _) _ _ ((same_new fT _) _ _ hq')
        · rintro σ' H' ⟨O', v9, v10, rfl, G', m', hF', hW', hq'⟩
          have et : (fourE i0 i1 i2 i3 ex ey j).take 4 = fourE i0 i1 i2 i3 ex ey j := rfl
          have hW' : TupsAt O' Wt ((St0 ++ (fourE i0 i1 i2 i3 ex ey j).take 4).map SEn.tp) := hW'
          rw [et] at hW'
          refine ⟨stkW (St0 ++ fourE i0 i1 i2 i3 ex ey j), ?_, O', Fd, St0 ++ fourE i0 i1 i2 i3 ex ey j, _, _, _, _, _, _, _, rfl, ⟨⟨s1, G'⟩, m', hF', hW', fun e he => ?_, fun n e he => ?_, ?_⟩, rfl⟩
          · have := fourE_W i0 i1 i2 i3 ex ey j
            have e1 : stkW (St0 ++ fourE i0 i1 i2 i3 ex ey j) = stkW St0 + stkW (fourE i0 i1 i2 i3 ex ey j) := by
              unfold stkW
              rw [List.map_append, List.sum_append]
            rw [e1, stkW_snoc]
            show stkW St0 + stkW (fourE i0 i1 i2 i3 ex ey j) < stkW St0 + 5 ^ (j + 1)
            omega
          · rcases List.mem_append.mp he with he | he
            · exact en0 e he
            · exact (hQ e he).1
          · by_cases hn : n < St0.length
            · rw [List.getElem?_append_left hn] at he
              exact lv0 n e he
            · rw [List.getElem?_append_right (by omega)] at he
              have h3 := (hQ e (List.mem_of_getElem? he)).2
              have h4 : n - St0.length < 4 := (List.getElem?_eq_some_iff.mp he).1
              omega
          · have e1 : stkCells f (St0 ++ fourE i0 i1 i2 i3 ex ey j) = stkCells f St0 ++ SEn.cells f ⟨ei, ex, ey, j + 1⟩ := by
              rw [← fourE_cells f ei i0 i1 i2 i3 ex ey j]
              unfold stkCells
              rw [List.flatMap_append]
            rw [e1, ← List.append_assoc]
            exact hpm0
      · have c3 : lives (win f (j + 1) ex ey) = 0 := by
          have : ¬ ((lives (win f (j + 1) ex ey) : Nat) : Int) > 0 := of_decide_eq_false (Bool.eq_false_iff.mpr c2)
          omega
        refine ⟨stkW St0, wlt, _, Fd, St0, _, _, _, _, _, _, _, rfl, ⟨⟨s1, G5⟩, m5, hFd5, q4, en0, lv0, ?_⟩, rfl⟩
        have ec : SEn.cells f ⟨ei, ex, ey, j + 1⟩ = [] := List.eq_nil_of_length_eq_zero (by
          show (cellsQ (win f (j + 1) ex ey) (j + 1) ex ey).length = 0
          rw [cellsQ_length]
          exact c3)
        rw [ec, List.append_nil] at hpm0
        exact hpm0
  · have c1 : ¬ ((lw.length : Nat) : Int) > 0 := of_decide_eq_false (Bool.eq_false_iff.mpr c)
    have e0 : St = [] := List.eq_nil_of_length_eq_zero (by omega)
    subst e0
    obtain ⟨bs, b1, b2, b3⟩ := hFd.sc
    have hpm' : (bs.map fun b => b.2).Perm (cellsQ (cw f (k + 1)) (k + 1) (-(p2 k)) (-(p2 k))) := by
      rw [b2]
      have := hpm
      rw [show stkCells f [] = [] from rfl, List.append_nil] at this
      exact this
    have cwe : cw f (k + 1) = win f (k + 1) (-(p2 k)) (-(p2 k)) := rfl
    refine ⟨_, rfl, F, bs, rfl, rfl, SqL.of (G4.sub b1), fun b hb => G4.sub (b3 b hb), fun p H' np m hp => ?_⟩
    obtain ⟨O2, G5, m2, n2⟩ := G4.after m
    have hp2 := n2 _ _ np hp
    refine q p _ O2 H' ⟨s1, G5⟩ (m1.trans m2) (CellsAt.ofSC hp2 fun b hb => m2 _ _ (b3 b ((List.mergeSort_perm bs leC).mem_iff.mp hb))) (sorted_listed ?_ fun u v s' => ?_)
    · refine hpm'.nodup_iff.mpr ?_
      rw [cwe]
      exact cellsQ_nodup
    · rw [hpm'.mem_iff, cwe, cellsQ_mem]
      have ps := p2_succ k
      constructor
      · rintro ⟨_, _, _, _, a, b⟩
        exact ⟨a, b⟩
      · rintro ⟨a, b⟩
        have := hs u v (by rw [a]; exact b)
        rw [show k + 1 - 1 = k from rfl] at this
        exact ⟨by omega, by omega, by omega, by omega, a, b⟩
end
end Jf
/-! JfJa -/
set_option autoImplicit true
/-! jump. -/
namespace Jf
open PySem PySem.Spec PyProof.Rows L2
section
variable {P : Program} {w : World} {K : PySem.W.Frag} {mg : Str → Option Value} {base : Heap} {S : Q → Prop} {R : Q × Nat → Prop}
def spJump (K : PySem.W.Frag) (S : Q → Prop) (R : Q × Nat → Prop) : Sp := fun vs H Qk _ => ∃ (jp g r d : Addr) (cs : List Cl) (P : Pat) (t n : Nat) (B : Int) (w : GWd) (O : Hp) (i k : Nat), vs = [.ref jp, .int (i : Nat), .int (n : Nat)] ∧ JS K S R P.g jp g r d cs w O H ∧
  FamN S R P t n ∧ w.cs[i]? = some (cw (ev P.g t P.f) k) ∧ isF (ev P.g t P.f) k ∧ bnd (ev P.g t P.f) B ∧ 0 ≤ B ∧ B + n ≤ LIM ∧
  ∀ k', isF (ev P.g (t + n) P.f) k' → GivesJ K S R P.g jp g r d cs w O (cw (ev P.g (t + n) P.f) k') Qk
theorem sc_jump : FnScope [("jumps" : Str), ("field" : Str), ("n" : Str), ("way" : Str)] ["jumps", "field", "n"] (defScope s_jump) := ⟨rfl, rfl, rfl, by decide +kernel, rfl, by decide +kernel, by decide +kernel⟩
theorem ok_jump (T : Txt K mg) : Ok P w K mg base ("jump", none) ["jumps", "field", "n"] 55 (spJump K S R) := by
  obtain ⟨fd_trimmed, G_trimmed, b_trimmed, k_trimmed⟩ := ok_trimmed (P := P) (w := w) (base := base) (S := S) T
  obtain ⟨fd_road, G_road, b_road, k_road⟩ := ok_road (P := P) (w := w) (base := base) (S := S) (R := R) T
  refine Ok.of T.d_jump sc_jump (fun vs H Q E h => ?_) (fun cdv A outer s H vs Q E hr h => ?_)
  · obtain ⟨jp, g, r, d, cs, P, t, n, B, w, O, i, k, rfl, _⟩ := h
    rfl
  obtain ⟨jp, g, r, d, cs, P, t, n, B, w, O, i, k, rfl, J, hF, hi, hk, hB, B0, hBn, q⟩ := h
  have hu64 := hr.units
  refine ⟨_, (pss_cons (ps_set (i := 3) sc_jump.nd rfl (Or.inl rfl) (pe_call G_road (hr.mono (by omega)) (by rfl) T.g_road k_road b_road .nil pass0 (pa_cons (pv 0) (pa_cons (pv 1) (pa_cons (pv 2) pa_nil)))))
      (pss_cons (ps_if (pt_cmpR (op_eqD hu64) (pv 3) (pe_lst pa_nil) (nomark _)) (pss_one (ps_ret (pv 1))) pss_nil)
      (pss_one (ps_ret (pe_call G_trimmed (hr.mono (by omega)) (by rfl) T.g_trimmed k_trimmed b_trimmed .nil pass0 (pa_cons (pe_fld (pv 0) rfl) (pa_cons (pe_ix ix_tup (pe_ix ix_list (pv 3) (pe_un un_neg pe_int) (fun _ _ => rfl)) pe_int (fun _ _ => rfl)) pa_nil))))))), ?_⟩
  refine ⟨_, rfl, _, rfl, _, rfl, jp, g, r, d, cs, P, t, n, B, w, O, i, k, rfl, J, hF, hi, hk, hB, B0, hBn, fun F L w1 O1 H1 J1 x1 m1 hL hc => ?_⟩
  obtain ⟨s1, G1⟩ := J1.gv
  have I0 : JI K S R P.g g d w1 O1 w1 O1 H1 := ⟨J1.gv, ExC.refl _, SameX.refl _ _, J1.jv⟩
  refine ⟨_, rfl, Nat.zero_le _, fun u hu => ?_⟩
  have I2 := I0.new hu (.lst [])
  have hL2 := hL.off (I0.free hu).1 (.lst [])
  obtain ⟨kv1, hd1⟩ := J1.jv.dict
  have hLH := hL2.same (fun a o e => I2.sub e)
  refine ⟨_, _, dp_cells hLH, .lst (SqL.of upd_same) .nil, shaped_cells L, by rfl, _, rfl, ?_⟩
  rcases hc with ⟨rfl, he⟩ | ⟨L0, a, b, res, m, rfl, hres, m1', m48, sS, fS⟩
  · refine iteT ⟨_, rfl, ?_⟩
    refine q k (by rw [he]; exact hk) i w1 _ _ (I2.js J1.jo J1.ru J1.rg hd1) x1 (m1.trans I2.sx) ?_
    rw [he]
    exact x1 _ _ hi
  · have ne : PyData.eqv (.list ((L0 ++ [(a, b, res)]).map cellD)) (.list []) = false := by
      cases L0 <;> rfl
    rw [ne]
    refine iteF ?_
    obtain ⟨dj, hj⟩ := id J1.jo
    have hj2 : upd O1 u (.lst []) jp = some (.ins (CJ K) dj (jfs g r d)) := I2.sx _ _ (fun z => by rw [z, hd1] at hj; cases hj) hj
    obtain ⟨ps, h1, h2, h3⟩ := hLH
    obtain ⟨l, x, el⟩ : ∃ l x, ps = l ++ [x] := by
      rcases List.eq_nil_or_concat ps with e | ⟨l, x, e⟩
      · rw [e, List.length_append] at h2; simp at h2
      · exact ⟨l, x, by rw [e, List.concat_eq_append]⟩
    subst el
    have ll : l.length = L0.length := by
      rw [List.length_append, List.length_append] at h2
      exact Nat.succ.inj h2
    have tp := h3 l.length x a b res (by rw [List.getElem?_append_right (Nat.le_refl _), Nat.sub_self]; rfl) (by rw [ll, List.getElem?_append_right (Nat.le_refl _), Nat.sub_self]; rfl)
    refine ⟨_, rfl, jp, _, dj, _, _, rfl, I2.sub hj2, T.c_Jumps, T.n_Jumps_grove, jfs_grove g r d, _, rfl, 1, rfl, F, _, _, .ref x, rfl, rfl, SqL.of h1, ?_, x, _, _, _, rfl, rfl, SqT.of tp, rfl, ?_⟩
    · rw [List.map_append]
      exact atI_last _ _
    refine ⟨g, w1, _, res, _, m, rfl, I2.gv, hres, m1', m48, sS, fS, fun k' Fk' _ i3 w3 O3 H3 G3 x3 m3 h3' => ?_⟩
    have I3 := I2.grove G3 x3 m3
    exact q k' Fk' i3 w3 O3 H3 (I3.js J1.jo J1.ru J1.rg hd1) (x1.trans x3) (m1.trans I3.sx) h3'
end
end Jf
/-! JfL7 -/
set_option autoImplicit true
/-! The law's dicts: listed. -/
namespace Jf
open PySem PySem.Spec PyProof.Rows L2
theorem ndK_nd {L : List C3} (nd : ndK L) : L.Nodup := (List.pairwise_map.mp nd).imp fun h e => h (by rw [e])
theorem plOf_iff {L : List C3} (nd : ndK L) (hz : ∀ c ∈ L, c.2.2 ≠ 0) {u v : Int} {s : Nat} : (u, v, s) ∈ L ↔ plOf L u v = s ∧ s ≠ 0 := by
  refine ⟨fun h => ⟨plOf_mem nd h, hz _ h⟩, fun ⟨h1, h2⟩ => ?_⟩
  by_cases h : ∃ c ∈ L, u = c.1 ∧ v = c.2.1
  · obtain ⟨⟨a, b, c⟩, hc, e1, e2⟩ := h
    have e1' : u = a := e1
    have e2' : v = b := e2
    subst e1' e2'
    rw [plOf_mem nd hc] at h1
    subst h1
    exact hc
  · rw [plOf_out fun c hc z => h ⟨c, hc, z⟩] at h1
    exact absurd h1.symm h2
theorem none_of {H H' : Hp} {p : Addr} (s : Same H H') (h : H' p = none) : H p = none := by
  cases e : H p with
  | none => rfl
  | some o => rw [s _ _ e] at h; cases h
section
variable {P : Program} {w : World} {K : PySem.W.Frag} {mg : Str → Option Value} {base : Heap}
theorem sc_law_by_rows : FnScope [("_law_cell" : Str)] ["_law_cell"] (defScope s_law_by_rows) := ⟨rfl, rfl, rfl, by decide +kernel, rfl, by decide +kernel, by decide +kernel⟩
theorem ok_law_by_rows (T : Txt K mg) : Ok P w K mg base ("_law_by_rows", none) ["_law_cell"] 1 spByRows := by
  refine Ok.of T.d_law_by_rows sc_law_by_rows (fun vs H Q E h => ?_) (fun cdv A outer s H vs Q E hr h => ?_)
  · obtain ⟨t, x, y, s, rfl, _⟩ := h
    rfl
  obtain ⟨t, x, y, s, rfl, ht, q⟩ := h
  refine ⟨_, (pss_one (ps_ret (pe_tup (pa_cons (pe_ix ix_tup (pv 0) pe_int (fun _ _ => rfl)) (pa_cons (pe_ix ix_tup (pv 0) pe_int (fun _ _ => rfl)) pa_nil))))), ?_⟩
  refine ⟨_, rfl, _, _, _, _, rfl, rfl, SqT.of ht, rfl, _, rfl, _, _, _, _, rfl, rfl, SqT.of ht, rfl, (by show 2 ≤ sizeLine; decide), fun p hp => ?_⟩
  exact q p _ (same_new hp _) upd_same
def spListed (K : PySem.W.Frag) : Sp := fun vs H Qk _ => ∃ (d : Addr) (L : List C3), vs = [.ref d] ∧ H d = some (.dT (dV L)) ∧ ndK L ∧ L.length ≤ 900 ∧ (∀ c ∈ L, c.2.2 ≠ 0) ∧ ∀ p H' Ls, H p = none → Same H H' → CellsAt H' p Ls → Listed (plOf L) Ls → Qk (.ref p) H'
theorem sc_law_listed : FnScope [("_law_states" : Str), ("_law_some" : Str), ("_law_place" : Str)] ["_law_states"] (defScope s_law_listed) := ⟨rfl, rfl, rfl, by decide +kernel, rfl, by decide +kernel, by decide +kernel⟩
theorem ok_law_listed (T : Txt K mg) : Ok P w K mg base ("_law_listed", none) ["_law_states"] 5 (spListed K) := by
  obtain ⟨fd_law_by_rows, G_law_by_rows, b_law_by_rows, k_law_by_rows⟩ := ok_law_by_rows (P := P) (w := w) (base := base) T
  refine Ok.of T.d_law_listed sc_law_listed (fun vs H Q E h => ?_) (fun cdv A outer s H vs Q E hr h => ?_)
  · obtain ⟨d, L, rfl, _⟩ := h
    rfl
  obtain ⟨d, L, rfl, hd, nd, hl, hz, q⟩ := h
  have hu := hu_of hr
  refine ⟨_, (pss_cons (ps_set (i := 1) sc_law_listed.nd rfl (Or.inl rfl) (pe_lst pa_nil))
      (pss_cons (ps_lock (ps_for PassesOwn.never (by rfl) (pi_keys (pv 0)) (pg_name (i := 2) sc_law_listed.nd rfl (Or.inl rfl)) (pss_one (ps_expr (pe_bm PySem.F.plainAttrs_list PySem.F.slot_list_append PySem.F.type_list_append mt_append (pv 1) (pa_cons (pe_tup (pa_cons (pe_ix ix_tup (pv 2) pe_int (fun _ _ => rfl)) (pa_cons (pe_ix ix_tup (pv 2) pe_int (fun _ _ => rfl)) (pa_cons (pe_dget hu (pv 0) (pv 2) (fun _ _ => rfl)) pa_nil)))) pa_nil))))))
      (pss_one (ps_ret (pe_callBK (cr_sortedBy G_law_by_rows b_law_by_rows (hr.mono (by omega))) (by rfl) T.f_sorted (by decide +kernel) (pa_cons (pv 1) pa_nil) (pk_cons (pe_glob (v := .ref (He.fAd K (("_law_by_rows" : Str), none))) (by rfl) T.g_law_by_rows rfl) pk_nil)))))), ?_⟩
  refine ⟨Nat.zero_le _, fun D hD => ?_⟩
  have nDd : d ≠ D := fun z => by rw [z, hD] at hd; cases hd
  have s0 := fun l => same_new hD (.lst l)
  refine ⟨d, .dT (dV L), s0 _ _ _ hd, trivial, fun od => ?_⟩
  have hx0 : (upd (upd H D (.lst [])) d (.frz od (.dT (dV L)))) d = some (.frz od (.dT (dV L))) := upd_same
  refine ⟨_, rfl, d, od, rfl, .inr ⟨dV L, hx0, ?_⟩⟩
  refine for_it (walk_keysT (d := d) (o := od) (kvs := dV L)) (fun n σ' H' => ∃ (bs : List SC) (v2 : Option V), σ' = [some (.ref d), some (.ref D), v2] ∧ H' D = some (.lst (bs.map fun b => V.ref b.1)) ∧ bs.map (fun b => b.2) = L.take n ∧ (∀ b ∈ bs, H' b.1 = some (.tup [.int b.2.1, .int b.2.2.1, .int (b.2.2.2 : Nat)])) ∧
      H' d = some (.frz od (.dT (dV L))) ∧ ∀ b o, b ≠ d → H b = some o → H' b = some o)
    ⟨[], none, rfl, by rw [upd_ne nDd.symm, upd_same]; rfl, rfl, fun b hb => (by cases hb), hx0, fun b o nb e => by rw [upd_ne nb]; exact s0 _ _ _ e⟩ (fun n σ' H' _ ⟨bs, v2, _, _, _, _, h, _⟩ => h) ?_ ?_
  · rintro n x σ1 H1 H2 hn ⟨bs, v2, rfl, hD1, hbs, hb, hd1, keep⟩ ⟨rfl, k, v, qa, hk, rfl, hq⟩
    obtain ⟨c, hc, rfl, rfl⟩ := dV_at hk
    rw [show (keyC c.1 c.2.1).map kV = [V.int c.1, V.int c.2.1] from kI_V _] at hq
    have hcm := List.mem_of_getElem? hc
    refine ⟨_, rfl, .inl ⟨rfl, _, SqL.of hD1⟩, _, rfl, _, _, _, _, rfl, rfl, SqT.of hq, rfl, _, rfl, _, _, _, _, rfl, rfl, SqT.of hq, rfl, _, rfl, _, rfl, d, _, rfl, .inr ⟨dV L, keyC c.1 c.2.1, qa, .inr ⟨od, hd1⟩, rfl, ?_, (valV_dV nd hcm).symm⟩, (by show 3 ≤ sizeLine; decide), fun u hu1 => ?_⟩
    · rw [show (keyC c.1 c.2.1).map kV = [V.int c.1, V.int c.2.1] from kI_V _]
      exact hq
    have su := fun l => same_new hu1 (.tup l)
    have nuD : D ≠ u := fun z => by rw [← z, hD1] at hu1; cases hu1
    have ndu : d ≠ u := fun z => by rw [← z, hd1] at hu1; cases hu1
    refine ⟨D, _, _, rfl, rfl, su _ _ _ hD1, ?_, bs ++ [(u, c.1, c.2.1, c.2.2)], _, rfl, ?_, ?_, fun b hb2 => ?_, ?_, fun b o nb e => ?_⟩
    · have := congrArg List.length hbs
      rw [List.length_map, List.length_take] at this
      rw [List.length_map]
      exact small1000 (by omega)
    · rw [upd_same, List.map_append]
      rfl
    · rw [List.map_append, hbs, List.take_add_one, hc]
      rfl
    · rcases List.mem_append.mp hb2 with h | h
      · have nb : b.1 ≠ D := fun z => by
          have := hb b h
          rw [z, hD1] at this
          cases this
        rw [upd_ne nb]
        exact su _ _ _ (hb b h)
      · rw [List.mem_singleton.mp h]
        show (upd _ D _) u = _
        rw [upd_ne nuD.symm, upd_same]
    · rw [upd_ne nDd]
      exact su _ _ _ hd1
    · have nb2 : b ≠ D := fun z => by rw [z, hD] at e; cases e
      rw [upd_ne nb2]
      exact su _ _ _ (keep b o nb e)
  · rintro σ1 H1 ⟨bs, v2, rfl, hD1, hbs, hb, hd1, keep⟩
    refine ⟨hd1, ?_⟩
    have eL : (dV L).length = L.length := List.length_map ..
    rw [eL, List.take_length] at hbs
    have sH : Same H (upd H1 d (.dT (dV L))) := fun b o e => by
      by_cases nb : b = d
      · rw [nb, upd_same]
        rw [nb, hd] at e
        exact e
      · rw [upd_ne nb]
        exact keep b o nb e
    refine ⟨_, rfl, D, bs, rfl, rfl, SqL.of ((upd_ne nDd.symm).trans hD1), fun b hb2 => ?_, fun p H2 hp s2 hp2 => ?_⟩
    · have nb : b.1 ≠ d := fun z => by
        have := hb b hb2
        rw [z, hd1] at this
        cases this
      rw [upd_ne nb]
      exact hb b hb2
    · refine q p H2 _ (none_of sH hp) (sH.trans s2) (CellsAt.ofSC hp2 fun b hb2 => ?_) (sorted_listed ?_ fun u v z => ?_)
      · have hbm := (List.mergeSort_perm bs leC).mem_iff.mp hb2
        refine s2 _ _ ?_
        have nb : b.1 ≠ d := fun z => by
          have := hb b hbm
          rw [z, hd1] at this
          cases this
        rw [upd_ne nb]
        exact hb b hbm
      · rw [hbs]
        exact ndK_nd nd
      · rw [hbs]
        exact plOf_iff nd hz
end
end Jf
/-! JfL8 -/
set_option autoImplicit true
/-! The law's dicts: the heap, glided. -/
namespace Jf
open PySem PySem.Spec PyProof.Rows L2
def heapC (ns : List Int) (first : Nat) (left top : Int) (k : Nat) : C3 := (left + (sAt ns (first + k) + 3 * (k : Nat)) % 6, top + (sAt ns (first + k) + 3 * (k : Nat)) / 6 % 3, (1 + (sAt ns (first + k) / 18 + (k : Nat)) % 7).toNat)
def heapL (ns : List Int) (first : Nat) (left top : Int) : Nat → List C3
  | 0 => []
  | n + 1 => putL (heapL ns first left top n) (heapC ns first left top n)
theorem heapL_len (ns : List Int) (first : Nat) (left top : Int) : ∀ n, (heapL ns first left top n).length ≤ n
  | 0 => Nat.le_refl _
  | n + 1 => Nat.le_trans (putL_len _ _) (Nat.succ_le_succ (heapL_len ns first left top n))
theorem heapL_nd (ns : List Int) (first : Nat) (left top : Int) : ∀ n, ndK (heapL ns first left top n)
  | 0 => List.nodup_nil
  | n + 1 => putL_nd (heapL_nd ns first left top n)
theorem heapL_mem (ns : List Int) (first : Nat) (left top : Int) : ∀ n, ∀ c ∈ heapL ns first left top n, (left ≤ c.1 ∧ c.1 < left + 6) ∧ (top ≤ c.2.1 ∧ c.2.1 < top + 3) ∧ 1 ≤ c.2.2 ∧ c.2.2 < 8
  | 0, c, h => by cases h
  | n + 1, c, h => by
    rcases putL_mem h with h | rfl
    · exact heapL_mem ns first left top n c h
    · show (left ≤ left + (sAt ns (first + n) + 3 * (n : Nat)) % 6 ∧ left + (sAt ns (first + n) + 3 * (n : Nat)) % 6 < left + 6) ∧ (top ≤ top + (sAt ns (first + n) + 3 * (n : Nat)) / 6 % 3 ∧ top + (sAt ns (first + n) + 3 * (n : Nat)) / 6 % 3 < top + 3) ∧ 1 ≤ (1 + (sAt ns (first + n) / 18 + (n : Nat)) % 7).toNat ∧ (1 + (sAt ns (first + n) / 18 + (n : Nat)) % 7).toNat < 8
      omega
def glC (m : Nat → Nat) (y n : Nat) (c : C3) : C3 := (c.1 - (n : Nat) * offX y, c.2.1 - (n : Nat) * offY y, it m n c.2.2)
def glL (m : Nat → Nat) (y n : Nat) (L : List C3) : List C3 := (L.filter fun c => it m n c.2.2 != 0).map (glC m y n)
section
variable {P : Program} {w : World} {K : PySem.W.Frag} {mg : Str → Option Value} {base : Heap}
def spHeap (K : PySem.W.Frag) : Sp := fun vs H Qk _ => ∃ (a : Addr) (ns : List Int) (first many : Nat) (left top : Int), vs = [.ref a, .int (first : Nat), .int (many : Nat), .int left, .int top] ∧ SqL K H a (ns.map V.int) ∧ many ≤ 900 ∧
  ∀ p H', Same H H' → H' p = some (.dT (dV (heapL ns first left top many))) → Qk (.ref p) H'
theorem sc_law_heap : FnScope [("_law_script" : Str), ("_law_first" : Str), ("_law_many" : Str), ("_law_left" : Str), ("_law_top" : Str), ("_law_states" : Str), ("_law_k" : Str), ("_law_value" : Str), ("_law_at_here" : Str)] ["_law_script", "_law_first", "_law_many", "_law_left", "_law_top"] (defScope s_law_heap) := ⟨rfl, rfl, rfl, by decide +kernel, rfl, by decide +kernel, by decide +kernel⟩
theorem ok_law_heap (T : Txt K mg) : Ok P w K mg base ("_law_heap", none) ["_law_script", "_law_first", "_law_many", "_law_left", "_law_top"] 2 (spHeap K) := by
  obtain ⟨fd_law_at, G_law_at, b_law_at, k_law_at⟩ := ok_law_at (P := P) (w := w) (base := base) T
  refine Ok.of T.d_law_heap sc_law_heap (fun vs H Q E h => ?_) (fun cdv A outer s H vs Q E hr h => ?_)
  · obtain ⟨a, ns, first, many, left, top, rfl, _⟩ := h
    rfl
  obtain ⟨a, ns, first, many, left, top, rfl, hS, hmy, q⟩ := h
  have hu := hu_of hr
  refine ⟨_, (pss_cons (ps_set (i := 5) sc_law_heap.nd rfl (Or.inl rfl) pe_dnewT)
      (pss_cons (ps_for PassesOwn.never (by rfl) (pi_range1 (by rfl) T.f_range (pa_cons (pv 2) pa_nil)) (pg_name (i := 6) sc_law_heap.nd rfl (Or.inl rfl)) (pss_cons (ps_set (i := 7) sc_law_heap.nd rfl (Or.inl rfl) (pe_call G_law_at (hr.mono (by omega)) (by rfl) T.g_law_at k_law_at b_law_at .nil pass0 (pa_cons (pv 0) (pa_cons (pe_op op_add (pv 1) (pv 6)) pa_nil))))
      (pss_cons (ps_set (i := 8) sc_law_heap.nd rfl (Or.inl rfl) (pe_op op_add (pv 7) (pe_op op_mul pe_int (pv 6))))
      (pss_one (ps_dput hu (pv 5) (pe_tup (pa_cons (pe_op op_add (pv 3) (pe_op op_mod (pv 8) pe_int)) (pa_cons (pe_op op_add (pv 4) (pe_op op_mod (pe_op op_fdiv (pv 8) pe_int) pe_int)) pa_nil))) (pe_op op_add pe_int (pe_op op_mod (pe_op op_add (pe_op op_fdiv (pv 7) pe_int) (pv 6)) pe_int)) rfl)))))
      (pss_one (ps_ret (pv 5))))), ?_⟩
  refine fun D hD => ?_
  have s0 := fun l => same_new hD (.dT l)
  refine ⟨_, rfl, _, rfl, by omega, by omega, ?_⟩
  refine for_it (walk_range (lo := 0) (n := ((many : Nat) : Int).toNat)) (fun n σ' H' => ∃ v6 v7 v8 : Option V, σ' = [some (.ref a), some (.int (first : Nat)), some (.int (many : Nat)), some (.int left), some (.int top), some (.ref D), v6, v7, v8] ∧ Same H H' ∧ H' D = some (.dT (dV (heapL ns first left top n))))
    ⟨none, none, none, rfl, s0 _, upd_same⟩ (fun _ _ _ _ _ => True.intro) ?_ ?_
  · rintro n x σ1 H1 H2 hn ⟨v6, v7, v8, rfl, s1, hD1⟩ ⟨rfl, hx⟩
    have hx2 : x = V.int (n : Nat) := hx.trans (by show V.int (0 + (n : Nat)) = _; rw [Int.zero_add])
    subst hx2
    have hn2 : n < many := by rw [Int.toNat_natCast] at hn; exact hn
    have e1 : [V.ref a, V.int ((first : Nat) + (n : Nat) : Int)] = [V.ref a, V.int ((first + n : Nat) : Int)] := by rw [show ((first : Nat) + (n : Nat) : Int) = ((first + n : Nat) : Int) by omega]
    refine ⟨_, rfl, _, rfl, _, rfl, _, _, rfl, rfl, a, ns, first + n, e1, sql_same hS s1, ?_⟩
    refine ⟨_, rfl, _, rfl, _, _, rfl, rfl, .inl ⟨by decide, by decide⟩, _, _, rfl, rfl, ?_⟩
    refine ⟨_, rfl, _, _, rfl, rfl, ⟨by decide, by decide⟩, _, rfl, _, _, rfl, rfl, _, _, rfl, rfl, (by show (0 : Int) < 7; decide), _, _, rfl, rfl, ?_⟩
    refine ⟨_, rfl, _, rfl, _, rfl, _, _, rfl, rfl, (by show (0 : Int) < 6; decide), _, _, rfl, rfl, _, rfl, _, rfl, _, _, rfl, rfl, ⟨by decide, by decide⟩, _, _, rfl, rfl, (by show (0 : Int) < 3; decide), _, _, rfl, rfl, (by show 2 ≤ sizeLine; decide), fun u hu1 => ?_⟩
    have su := fun l => same_new hu1 (.tup l)
    have hl := heapL_len ns first left top n
    refine ⟨D, _, rfl, .inr ⟨dV (heapL ns first left top n), keyC (heapC ns first left top n).1 (heapC ns first left top n).2.1, u, su _ _ _ hD1, rfl, ?_, ?_, rfl⟩, ?_⟩
    · rw [show (keyC (heapC ns first left top n).1 (heapC ns first left top n).2.1).map kV = [V.int (heapC ns first left top n).1, V.int (heapC ns first left top n).2.1] from kI_V _]
      exact upd_same
    · unfold dV
      rw [List.length_map]
      exact small1000 (by omega)
    · have ev : (1 + (sAt ns (first + n) / 18 + (n : Nat)) % 7 : Int) = (((heapC ns first left top n).2.2 : Nat) : Int) := by
        show _ = (((1 + (sAt ns (first + n) / 18 + (n : Nat)) % 7).toNat : Nat) : Int)
        omega
      refine ⟨_, _, _, rfl, fun b o e => ?_, ?_⟩
      · have nb : b ≠ D := fun z => by rw [z, hD] at e; cases e
        rw [upd_ne nb]
        exact su _ _ _ (s1 _ _ e)
      · rw [upd_same]
        show some (HO.dT (putK _ _ (V.int (1 + (sAt ns (first + n) / 18 + (n : Nat)) % 7 : Int)))) = _
        rw [ev, putK_dV]
        rfl
  · rintro σ1 H1 ⟨v6, v7, v8, rfl, s1, hD1⟩
    rw [Int.toNat_natCast] at hD1
    exact ⟨_, rfl, q D H1 s1 hD1⟩
def spGlided (K : PySem.W.Frag) : Sp := fun vs H Qk _ => ∃ (a d : Addr) (m : Nat → Nat) (y n : Nat) (L : List C3), vs = [.ref a, .int (y : Nat), .ref d, .int (n : Nat)] ∧ H a = some (.lst (fl8 m)) ∧ (∀ s, s < 8 → m s < 8) ∧ y < 9 ∧ H d = some (.dT (dV L)) ∧ ndK L ∧ L.length ≤ 900 ∧ (∀ c ∈ L, c.2.2 < 8) ∧
  ∀ p H', Same H H' → H' p = some (.dT (dV (glL m y n L))) → Qk (.ref p) H'
theorem sc_law_glided : FnScope [("_law_made" : Str), ("_law_way" : Str), ("_law_states" : Str), ("_law_n" : Str), ("_law_done" : Str), ("_law_step" : Str), ("_law_found" : Str), ("_law_place" : Str)] ["_law_made", "_law_way", "_law_states", "_law_n"] (defScope s_law_glided) := ⟨rfl, rfl, rfl, by decide +kernel, rfl, by decide +kernel, by decide +kernel⟩
theorem ok_law_glided (T : Txt K mg) : Ok P w K mg base ("_law_glided", none) ["_law_made", "_law_way", "_law_states", "_law_n"] 2 (spGlided K) := by
  obtain ⟨fd_law_mapped, G_law_mapped, b_law_mapped, k_law_mapped⟩ := ok_law_mapped (P := P) (w := w) (base := base) T
  obtain ⟨fd_law_offset, G_law_offset, b_law_offset, k_law_offset⟩ := ok_law_offset (P := P) (w := w) (base := base) T
  refine Ok.of T.d_law_glided sc_law_glided (fun vs H Q E h => ?_) (fun cdv A outer s H vs Q E hr h => ?_)
  · obtain ⟨a, d, m, y, n, L, rfl, _⟩ := h
    rfl
  obtain ⟨a, d, m, y, n, L, rfl, ha, hm, hy, hd, nd, hl, h8, q⟩ := h
  have hu := hu_of hr
  refine ⟨_, (pss_cons (ps_set (i := 4) sc_law_glided.nd rfl (Or.inl rfl) (pe_call G_law_mapped (hr.mono (by omega)) (by rfl) T.g_law_mapped k_law_mapped b_law_mapped .nil pass0 (pa_cons (pv 0) (pa_cons (pv 3) pa_nil))))
      (pss_cons (ps_set (i := 5) sc_law_glided.nd rfl (Or.inl rfl) (pe_call G_law_offset (hr.mono (by omega)) (by rfl) T.g_law_offset k_law_offset b_law_offset .nil pass0 (pa_cons (pv 1) pa_nil)))
      (pss_cons (ps_set (i := 6) sc_law_glided.nd rfl (Or.inl rfl) pe_dnewT)
      (pss_cons (ps_lock (ps_for PassesOwn.never (by rfl) (pi_keys (pv 2)) (pg_name (i := 7) sc_law_glided.nd rfl (Or.inl rfl)) (pss_one (ps_if (pt_cmpR op_ne (pe_ix ix_list (pv 4) (pe_dget hu (pv 2) (pv 7) (fun _ _ => rfl)) (fun _ _ => rfl)) pe_int (nomark _)) (pss_one (ps_dput hu (pv 6) (pe_tup (pa_cons (pe_op op_sub (pe_ix ix_tup (pv 7) pe_int (fun _ _ => rfl)) (pe_op op_mul (pv 3) (pe_ix ix_tup (pv 5) pe_int (fun _ _ => rfl)))) (pa_cons (pe_op op_sub (pe_ix ix_tup (pv 7) pe_int (fun _ _ => rfl)) (pe_op op_mul (pv 3) (pe_ix ix_tup (pv 5) pe_int (fun _ _ => rfl)))) pa_nil))) (pe_ix ix_list (pv 4) (pe_dget hu (pv 2) (pv 7) (fun _ _ => rfl)) (fun _ _ => rfl)) rfl)) pss_nil))))
      (pss_one (ps_ret (pv 6))))))), ?_⟩
  refine ⟨_, rfl, _, rfl, a, m, n, rfl, ha, hm, fun D H1 s1 hD => ?_⟩
  refine ⟨_, rfl, y, rfl, hy, fun St H2 s2 hSt => ?_⟩
  refine fun F hF => ?_
  have s3 := fun l => same_new hF (.dT l)
  have s12 := s1.trans s2
  have nFd : d ≠ F := fun z => by have := s12 _ _ hd; rw [z, hF] at this; cases this
  refine ⟨d, .dT (dV L), s3 _ _ _ (s12 _ _ hd), trivial, fun od => ?_⟩
  have nDd : D ≠ d := fun z => by have := s1 _ _ hd; rw [← z, hD] at this; cases this
  have nSd : St ≠ d := fun z => by have := s12 _ _ hd; rw [← z, hSt] at this; cases this
  have hx0 : (upd (upd H2 F (.dT [])) d (.frz od (.dT (dV L)))) d = some (.frz od (.dT (dV L))) := upd_same
  refine ⟨_, rfl, d, od, rfl, .inr ⟨dV L, hx0, ?_⟩⟩
  refine for_it (walk_keysT (d := d) (o := od) (kvs := dV L)) (fun j σ' H' => ∃ (v7 : Option V), σ' = [some (.ref a), some (.int (y : Nat)), some (.ref d), some (.int (n : Nat)), some (.ref D), some (.ref St), some (.ref F), v7] ∧ H' F = some (.dT (dV (glL m y n (L.take j)))) ∧ H' D = some (.lst (fl8 (it m n))) ∧ H' St = some (.tup [.int (offX y), .int (offY y)]) ∧
      H' d = some (.frz od (.dT (dV L))) ∧ ∀ b o, b ≠ d → H b = some o → H' b = some o)
    ⟨none, rfl, by rw [upd_ne nFd.symm, upd_same]; rfl, by rw [upd_ne nDd]; exact s3 _ _ _ (s2 _ _ hD), by rw [upd_ne nSd]; exact s3 _ _ _ hSt, hx0, fun b o nb e => by rw [upd_ne nb]; exact s3 _ _ _ (s12 _ _ e)⟩ (fun n σ' H' _ ⟨v2, _, _, _, _, h, _⟩ => h) ?_ ?_
  · rintro j x σ1 H3 H4 hn ⟨v7, rfl, hF1, hD1, hS1, hd1, keep⟩ ⟨rfl, k, v, qa, hk, rfl, hq⟩
    obtain ⟨c, hc, rfl, rfl⟩ := dV_at hk
    have hcm := List.mem_of_getElem? hc
    have hc8 := h8 c hcm
    have hget : DGet H4 d (.ref qa) (some (.int (c.2.2 : Nat))) := .inr ⟨dV L, keyC c.1 c.2.1, qa, .inr ⟨od, hd1⟩, rfl, hq, (valV_dV nd hcm).symm⟩
    have hq2 := hq
    rw [show (keyC c.1 c.2.1).map kV = [V.int c.1, V.int c.2.1] from kI_V _] at hq2
    have tk : L.take (j + 1) = L.take j ++ [c] := by rw [List.take_add_one, hc]; rfl
    refine ⟨_, rfl, _, rfl, _, rfl, d, _, rfl, hget, D, _, _, _, rfl, rfl, SqL.of hD1, atI_nat (fl8_at hc8), rfl, _, rfl, ?_⟩
    by_cases hz : it m n c.2.2 = 0
    · have e0 : decide (V.int ((it m n c.2.2 : Nat) : Int) = V.int 0) = true := decide_eq_true (by rw [hz]; rfl)
      rw [e0]
      refine iteF ⟨_, rfl, ?_, hD1, hS1, hd1, keep⟩
      rw [hF1, tk]
      unfold glL
      rw [List.filter_append, List.map_append, List.filter_cons_of_neg (by rw [hz]; decide)]
      rw [List.filter_nil, List.map_nil, List.append_nil]
    · have e0 : decide (V.int ((it m n c.2.2 : Nat) : Int) = V.int 0) = false := decide_eq_false fun z => by injection z with z; omega
      rw [e0]
      refine iteT ?_
      have ho := offs9 y hy
      refine ⟨_, rfl, _, rfl, _, rfl, d, _, rfl, hget, D, _, _, _, rfl, rfl, SqL.of hD1, atI_nat (fl8_at hc8), _, rfl, ?_⟩
      refine ⟨_, rfl, _, _, _, _, rfl, rfl, SqT.of hq2, rfl, _, rfl, _, rfl, _, _, _, _, rfl, rfl, SqT.of hS1, rfl, _, _, rfl, rfl, .inr ⟨by omega, by omega⟩, _, _, rfl, rfl, ?_⟩
      refine ⟨_, rfl, _, _, _, _, rfl, rfl, SqT.of hq2, rfl, _, rfl, _, rfl, _, _, _, _, rfl, rfl, SqT.of hS1, rfl, _, _, rfl, rfl, .inr ⟨by omega, by omega⟩, _, _, rfl, rfl, (by show 2 ≤ sizeLine; decide), fun u hu1 => ?_⟩
      have su := fun l => same_new hu1 (.tup l)
      have eg : glL m y n (L.take (j + 1)) = putL (glL m y n (L.take j)) (glC m y n c) := by
        have e1 : glL m y n (L.take (j + 1)) = glL m y n (L.take j) ++ [glC m y n c] := by
          rw [tk]
          unfold glL
          rw [List.filter_append, List.map_append, List.filter_cons_of_pos (by simpa using hz)]
          rfl
        rw [e1]
        refine (putL_new fun e he z => ?_).symm
        obtain ⟨c', hc', rfl⟩ := List.mem_map.mp he
        have hc2 : c' ∈ L.take j := (List.mem_filter.mp hc').1
        have z1 : c'.1 - (n : Nat) * offX y = c.1 - (n : Nat) * offX y := z.1
        have z2 : c'.2.1 - (n : Nat) * offY y = c.2.1 - (n : Nat) * offY y := z.2
        have nd2 : ndK (L.take (j + 1)) := List.Nodup.sublist ((List.take_sublist _ _).map _) nd
        rw [tk] at nd2
        unfold ndK at nd2
        rw [List.map_append, List.nodup_append] at nd2
        refine nd2.2.2 (c'.1, c'.2.1) (List.mem_map.mpr ⟨c', hc2, rfl⟩) (c.1, c.2.1) (List.mem_singleton.mpr rfl) ?_
        rw [show c'.1 = c.1 by omega, show c'.2.1 = c.2.1 by omega]
      have hlen : (glL m y n (L.take j)).length < sizeLine := by
        have h1 : (glL m y n (L.take j)).length ≤ L.length := by
          unfold glL
          rw [List.length_map]
          exact Nat.le_trans (List.length_filter_le _ _) (by rw [List.length_take]; omega)
        exact small1000 (by omega)
      have nFu : F ≠ u := fun z => by rw [← z, hF1] at hu1; cases hu1
      have nDF : D ≠ F := fun z => by rw [z, hF1] at hD1; cases hD1
      have nSF : St ≠ F := fun z => by rw [z, hF1] at hS1; cases hS1
      refine ⟨F, _, rfl, .inr ⟨dV (glL m y n (L.take j)), keyC (glC m y n c).1 (glC m y n c).2.1, u, su _ _ _ hF1, rfl, ?_, ?_, rfl⟩, ?_⟩
      · rw [show (keyC (glC m y n c).1 (glC m y n c).2.1).map kV = [V.int (glC m y n c).1, V.int (glC m y n c).2.1] from kI_V _]
        exact upd_same
      · unfold dV
        rw [List.length_map]
        exact hlen
      · refine ⟨_, rfl, ?_, ?_, ?_, ?_, fun b o nb e => ?_⟩
        · rw [upd_same, eg, ← putK_dV]
          rfl
        · rw [upd_ne nDF]; exact su _ _ _ hD1
        · rw [upd_ne nSF]; exact su _ _ _ hS1
        · rw [upd_ne nFd]; exact su _ _ _ hd1
        · have nbF : b ≠ F := fun z => by have := s12 _ _ e; rw [z, hF] at this; cases this
          rw [upd_ne nbF]
          exact su _ _ _ (keep b o nb e)
  · rintro σ1 H3 ⟨v7, rfl, hF1, hD1, hS1, hd1, keep⟩
    refine ⟨hd1, _, rfl, ?_⟩
    have eL : (dV L).length = L.length := List.length_map ..
    rw [eL, List.take_length] at hF1
    refine q F _ (fun b o e => ?_) (by rw [upd_ne nFd.symm]; exact hF1)
    by_cases nb : b = d
    · rw [nb, upd_same]
      rw [nb, hd] at e
      exact e
    · rw [upd_ne nb]
      exact keep b o nb e
end
end Jf
/-! JfL9 -/
set_option autoImplicit true
/-! The law's own comparison. -/
namespace Jf
open PySem PySem.Spec PyProof.Rows L2
theorem cellD_eqv (c : C3) : PyData.eqv (cellD c) (cellD c) = true := by
  have e : PyData.eqv (cellD c) (cellD c) = ((c.1 == c.1) && ((c.2.1 == c.2.1) && (((c.2.2 : Int) == (c.2.2 : Int)) && true))) := rfl
  rw [e, beq_self_eq_true, beq_self_eq_true, beq_self_eq_true]
  rfl
section
variable {P : Program} {w : World} {K : PySem.W.Frag} {mg : Str → Option Value} {base : Heap}
def spRight : Sp := fun vs H Qk _ => ∃ (p q : Addr) (L : List C3), vs = [.ref p, .ref q] ∧ CellsAt H p L ∧ CellsAt H q L ∧ L.length ≤ 1000000 ∧ Qk (.bl true) H
theorem sc_law_right : FnScope [("_law_found" : Str), ("_law_due" : Str), ("_law_k" : Str), ("_law_number" : Str)] ["_law_found", "_law_due"] (defScope s_law_right) := ⟨rfl, rfl, rfl, by decide +kernel, rfl, by decide +kernel, by decide +kernel⟩
theorem ok_law_right (T : Txt K mg) : Ok P w K mg base ("_law_right", none) ["_law_found", "_law_due"] 1 spRight := by
  refine Ok.of T.d_law_right sc_law_right (fun vs H Q E h => ?_) (fun cdv A outer s H vs Q E hr h => ?_)
  · obtain ⟨p, q, L, rfl, _⟩ := h
    rfl
  obtain ⟨p, q, L, rfl, ⟨ps, hp, lp, hps⟩, ⟨qs, hq, lq, hqs⟩, hl, hQ⟩ := h
  have hu64 := hr.units
  refine ⟨_, (pss_cons (ps_if (PW.pt (pw_or (pt_not (pt_val (pe_callB call_isi (by rfl) T.f_isinstance (by decide +kernel) (pa_cons (pv 0) (pa_cons (pe_bltn (v := .ty "list") (by rfl) T.f_list (by decide +kernel) rfl) pa_nil))))) (pw_or1 (pt_cmpR op_ne (pe_callB call_len_seq (by rfl) T.f_len (by decide +kernel) (pa_cons (pv 0) pa_nil)) (pe_callB call_len_seq (by rfl) T.f_len (by decide +kernel) (pa_cons (pv 1) pa_nil)) (nomark _))))) (pss_one (ps_ret pe_bl)) pss_nil)
      (pss_cons (ps_for PassesOwn.never (by rfl) (pi_range1 (by rfl) T.f_range (pa_cons (pe_callB call_len_seq (by rfl) T.f_len (by decide +kernel) (pa_cons (pv 1) pa_nil)) pa_nil)) (pg_name (i := 2) sc_law_right.nd rfl (Or.inl rfl)) (pss_cons (ps_if (PW.pt (pw_or (pt_not (pt_val (pe_callB call_isi (by rfl) T.f_isinstance (by decide +kernel) (pa_cons (pe_ix ix_list (pv 0) (pv 2) (fun _ _ => rfl)) (pa_cons (pe_bltn (v := .ty "tuple") (by rfl) T.f_tuple (by decide +kernel) rfl) pa_nil))))) (pw_or (pt_cmpR op_ne (pe_callB call_len_seq (by rfl) T.f_len (by decide +kernel) (pa_cons (pe_ix ix_list (pv 0) (pv 2) (fun _ _ => rfl)) pa_nil)) pe_int (nomark _)) (pw_or1 (pt_cmpR (op_neD hu64) (pe_ix ix_list (pv 0) (pv 2) (fun _ _ => rfl)) (pe_ix ix_list (pv 1) (pv 2) (fun _ _ => rfl)) (nomark _)))))) (pss_one (ps_ret pe_bl)) pss_nil)
      (pss_one (ps_for PassesOwn.never (by rfl) (pi_tup (pe_ix ix_list (pv 0) (pv 2) (fun _ _ => rfl))) (pg_name (i := 3) sc_law_right.nd rfl (Or.inl rfl)) (pss_one (ps_if (PW.pt (pw_or (pt_not (pt_val (pe_callB call_isi (by rfl) T.f_isinstance (by decide +kernel) (pa_cons (pv 3) (pa_cons (pe_bltn (v := .ty "int") (by rfl) T.f_int (by decide +kernel) rfl) pa_nil))))) (pw_or1 (pt_val (pe_callB call_isi (by rfl) T.f_isinstance (by decide +kernel) (pa_cons (pv 3) (pa_cons (pe_bltn (v := .ty "bool") (by rfl) T.f_bool (by decide +kernel) rfl) pa_nil))))))) (pss_one (ps_ret pe_bl)) pss_nil))))))
      (pss_one (ps_ret pe_bl)))), ?_⟩
  refine ⟨_, rfl, .ref p, .ty "list", .type "list", .type "list", true, rfl, .ty _, .base (.lst hp), kit_ty (by decide +kernel), _, rfl, iteF ?_⟩
  refine ⟨_, rfl, p, _, rfl, .inl (SqL.of hp), _, rfl, q, _, rfl, .inl (SqL.of hq), rfl, _, rfl, ?_⟩
  rw [List.length_map, List.length_map, lp, lq, decide_eq_true rfl]
  refine iteF ?_
  refine ⟨_, rfl, q, _, rfl, .inl (SqL.of hq), _, rfl, by omega, ?_, ?_⟩
  · rw [List.length_map, lq]
    omega
  refine for_it (walk_range (lo := 0) (n := (((qs.map V.ref).length : Nat) : Int).toNat)) (fun n σ' H' => H' = H ∧ ∃ v2 v3 : Option V, σ' = [some (.ref p), some (.ref q), v2, v3]) ⟨rfl, none, none, rfl⟩ (fun _ _ _ _ _ => True.intro) ?_ ?_
  · rintro n x σ1 H1 H2 hn ⟨rfl, v2, v3, rfl⟩ ⟨rfl, hx⟩
    have hx2 : x = V.int (n : Nat) := hx.trans (by show V.int (0 + (n : Nat)) = _; rw [Int.zero_add])
    subst hx2
    have hn2 : n < L.length := by rw [Int.toNat_natCast, List.length_map, lq] at hn; exact hn
    have hpn : (ps.map V.ref)[n]? = some (.ref (ps[n]'(by omega))) := by rw [List.getElem?_map, List.getElem?_eq_getElem (by omega)]; rfl
    have hqn : (qs.map V.ref)[n]? = some (.ref (qs[n]'(by omega))) := by rw [List.getElem?_map, List.getElem?_eq_getElem (by omega)]; rfl
    have tp := hps n _ _ _ _ (List.getElem?_eq_getElem (by omega)) (List.getElem?_eq_getElem hn2)
    have tq := hqs n _ _ _ _ (List.getElem?_eq_getElem (by omega)) (List.getElem?_eq_getElem hn2)
    refine ⟨_, rfl, _, rfl, p, _, _, _, rfl, rfl, SqL.of hp, atI_nat hpn, .ref _, .ty "tuple", .type "tuple", .type "tuple", true, rfl, .ty _, .base (.tup tp), kit_ty (by decide +kernel), _, rfl, iteF ?_⟩
    refine ⟨_, rfl, _, rfl, p, _, _, _, rfl, rfl, SqL.of hp, atI_nat hpn, _, _, rfl, .inr (SqT.of tp), rfl, _, rfl, iteF ?_⟩
    refine ⟨_, rfl, _, rfl, p, _, _, _, rfl, rfl, SqL.of hp, atI_nat hpn, _, rfl, _, rfl, q, _, _, _, rfl, rfl, SqL.of hq, atI_nat hqn, cellD L[n], cellD L[n], .tup (SqT.of tp) (.cons (.int _) (.cons (.int _) (.cons (.int _) .nil))), .tup (SqT.of tq) (.cons (.int _) (.cons (.int _) (.cons (.int _) .nil))), rfl, rfl, _, rfl, ?_⟩
    rw [cellD_eqv]
    refine iteF ?_
    refine ⟨_, rfl, _, rfl, p, _, _, _, rfl, rfl, SqL.of hp, atI_nat hpn, _, rfl, ⟨_, SqT.of tp⟩, ?_⟩
    refine for_it (walk_tup (K := K) (a := ps[n]) (xs := [.int L[n].1, .int L[n].2.1, .int (L[n].2.2 : Nat)])) (fun j σ' H' => H' = H2 ∧ ∃ v3 : Option V, σ' = [some (.ref p), some (.ref q), some (.int (n : Nat)), v3]) ⟨rfl, v3, rfl⟩ (fun _ _ _ _ ⟨h, _⟩ => by rw [h]; exact SqT.of tp) ?_ ?_
    · rintro j x σ1 H3 H4 hj ⟨rfl, v3, rfl⟩ ⟨rfl, hy⟩
      have hi : ∃ i : Int, x = V.int i := by
        match j, hj, hy with
        | 0, _, hy => exact ⟨_, (Option.some.inj hy).symm⟩
        | 1, _, hy => exact ⟨_, (Option.some.inj hy).symm⟩
        | 2, _, hy => exact ⟨_, (Option.some.inj hy).symm⟩
        | j + 3, hj, _ => exact absurd hj (by show ¬ j + 3 < 3; omega)
      obtain ⟨i, rfl⟩ := hi
      refine ⟨_, rfl, .int i, .ty "int", .type "int", .type "int", true, rfl, .ty _, .base (.int _), kit_ty (by decide +kernel), _, rfl, iteF ?_⟩
      refine ⟨_, rfl, .int i, .ty "bool", .type "int", .type "bool", false, rfl, .ty _, .base (.int _), kit_ty (by decide +kernel), _, rfl, iteF ?_⟩
      exact ⟨rfl, _, rfl⟩
    · rintro σ1 H3 ⟨rfl, v3, rfl⟩
      exact ⟨rfl, _, _, rfl⟩
  · rintro σ1 H1 ⟨rfl, v2, v3, rfl⟩
    exact hQ
end
end Jf
/-! JfK1 -/
set_option autoImplicit true
/-! The law's cells against the plane. -/
namespace Jf
open PySem PySem.Spec PyProof.Rows L2
theorem Listed.ndK {f : Pl} {L : List C3} (h : Listed f L) : ndK L := by
  show (L.map _).Nodup
  refine List.pairwise_map.mpr ?_
  refine (List.pairwise_iff_forall_sublist.mpr fun {a b} hs z => ?_)
  have ha : a ∈ L := hs.subset (List.mem_cons_self ..)
  have hb : b ∈ L := hs.subset (List.mem_cons_of_mem _ (List.mem_cons_self ..))
  obtain ⟨u, v, s⟩ := a
  obtain ⟨u', v', s'⟩ := b
  injection z with z1 z2
  have z1' : u = u' := z1
  have z2' : v = v' := z2
  subst z1' z2'
  obtain ⟨e1, _⟩ := (h.mem u v s).mp ha
  obtain ⟨e2, _⟩ := (h.mem u v s').mp hb
  have : s = s' := e1.symm.trans e2
  subst this
  have nd := h.nd.sublist hs
  simp at nd
theorem Listed.pl {f : Pl} {L : List C3} (h : Listed f L) : plOf L = f := by
  funext x y
  by_cases e : f x y = 0
  · rw [e]
    refine plOf_out fun c hc z => ?_
    obtain ⟨u, v, s⟩ := c
    obtain ⟨e1, e2⟩ := (h.mem u v s).mp hc
    have z1 : x = u := z.1
    have z2 : y = v := z.2
    rw [z1, z2] at e
    exact e2 (e1.symm.trans e)
  · exact plOf_mem h.ndK ((h.mem x y _).mpr ⟨rfl, e⟩)
theorem plOf_le {L : List C3} (nd : ndK L) (h8 : ∀ c ∈ L, c.2.2 ≤ 7) (x y : Int) : plOf L x y ≤ 7 := by
  by_cases h : ∃ c ∈ L, x = c.1 ∧ y = c.2.1
  · obtain ⟨⟨a, b, c⟩, hc, e1, e2⟩ := h
    have e1' : x = a := e1
    have e2' : y = b := e2
    subst e1' e2'
    rw [plOf_mem nd hc]
    exact h8 _ hc
  · rw [plOf_out fun c hc z => h ⟨c, hc, z⟩]
    exact Nat.zero_le _
theorem glL_nd {m : Nat → Nat} {y n : Nat} {L : List C3} (nd : ndK L) : ndK (glL m y n L) := by
  unfold glL ndK
  rw [List.map_map]
  have nd2 : ((L.filter fun c => it m n c.2.2 != 0).map fun c => (c.1, c.2.1)).Nodup := List.Nodup.sublist ((List.filter_sublist).map _) nd
  refine List.pairwise_map.mpr ((List.pairwise_map.mp nd2).imp fun {a b} h z => h ?_)
  injection z with z1 z2
  have z1' : a.1 - (n : Nat) * offX y = b.1 - (n : Nat) * offX y := z1
  have z2' : a.2.1 - (n : Nat) * offY y = b.2.1 - (n : Nat) * offY y := z2
  rw [show a.1 = b.1 by omega, show a.2.1 = b.2.1 by omega]
theorem glL_mem {m : Nat → Nat} {y n : Nat} {L : List C3} {c : C3} (h : c ∈ L) (hz : it m n c.2.2 ≠ 0) : glC m y n c ∈ glL m y n L :=
  List.mem_map.mpr ⟨c, List.mem_filter.mpr ⟨h, by simpa using hz⟩, rfl⟩
theorem glL_nz {m : Nat → Nat} {y n : Nat} {L : List C3} : ∀ c ∈ glL m y n L, c.2.2 ≠ 0 := fun c hc => by
  obtain ⟨d, hd, rfl⟩ := List.mem_map.mp hc
  have := (List.mem_filter.mp hd).2
  show it m n d.2.2 ≠ 0
  simpa using this
theorem glL_len {m : Nat → Nat} {y n : Nat} {L : List C3} : (glL m y n L).length ≤ L.length := by
  unfold glL
  rw [List.length_map]
  exact List.length_filter_le _ _
/-- the moved cells are the plane's, moved -/
theorem glL_ev {g : Gl} {y n : Nat} {L : List C3} (hx : g.ox = offX y) (hy : g.oy = offY y) (nd : ndK L) : plOf (glL g.m y n L) = ev g n (plOf L) := by
  funext x z
  show _ = it g.m n (plOf L (x + n * g.ox) (z + n * g.oy))
  by_cases h : ∃ c ∈ L, x + n * g.ox = c.1 ∧ z + n * g.oy = c.2.1
  · obtain ⟨⟨a, b, s⟩, hc, e1, e2⟩ := h
    have e1' : x + n * g.ox = a := e1
    have e2' : z + n * g.oy = b := e2
    rw [e1', e2', plOf_mem nd hc]
    by_cases hz : it g.m n s = 0
    · rw [hz]
      refine plOf_out fun d hd q => ?_
      obtain ⟨e, he, rfl⟩ := List.mem_map.mp hd
      obtain ⟨heL, hez⟩ := List.mem_filter.mp he
      have q1 : x = e.1 - (n : Nat) * offX y := q.1
      have q2 : z = e.2.1 - (n : Nat) * offY y := q.2
      rw [hx] at e1'
      rw [hy] at e2'
      obtain ⟨e0, f0, s0⟩ := e
      have r1 : e0 = a := by show e0 = a; have : x = e0 - (n : Nat) * offX y := q1; omega
      have r2 : f0 = b := by have : z = f0 - (n : Nat) * offY y := q2; omega
      subst r1 r2
      have : s0 = s := (plOf_mem nd heL).symm.trans (plOf_mem nd hc)
      subst this
      simp [hz] at hez
    · have hm := glL_mem (m := g.m) (y := y) (n := n) hc hz
      have e3 : glC g.m y n (a, b, s) = (x, z, it g.m n s) := by
        show (a - (n : Nat) * offX y, b - (n : Nat) * offY y, it g.m n s) = _
        rw [← hx, ← hy, ← e1', ← e2', Int.add_sub_cancel, Int.add_sub_cancel]
      rw [e3] at hm
      exact plOf_mem (glL_nd nd) hm
  · rw [plOf_out fun c hc z => h ⟨c, hc, z⟩, g.it0]
    refine plOf_out fun d hd q => h ?_
    obtain ⟨e, he, rfl⟩ := List.mem_map.mp hd
    obtain ⟨heL, hez⟩ := List.mem_filter.mp he
    have q1 : x = e.1 - (n : Nat) * offX y := q.1
    have q2 : z = e.2.1 - (n : Nat) * offY y := q.2
    exact ⟨e, heL, by rw [hx]; omega, by rw [hy]; omega⟩
end Jf
/-! JfK2 -/
set_option autoImplicit true
/-! The count of the squares that come by. -/
namespace Jf
open PySem PySem.Spec PyProof.Rows L2
def SL (P : Pat) (T : List Nat) (Fs : Nat → Pat) (N : Nat) (q : Q) : Prop := ST P T q ∨ SolidS q ∨ ∃ i, i < N ∧ ST (Fs i) [0] q
theorem SL.solid {P : Pat} {T : List Nat} {Fs : Nat → Pat} {N : Nat} (j s : Nat) (hj : j ≤ 48) (hs : s ≤ 7) : SL P T Fs N (solid j s) := .inr (.inl ⟨j, by omega, s, by omega, rfl⟩)
theorem SL.fams {P : Pat} {T : List Nat} {Fs : Nat → Pat} {N : Nat} {TE : List (Nat × Nat)} {t E : Nat} (h0 : t ∈ T) (h1 : t + 2 ^ E ∈ T) (h2 : (t, E) ∈ TE) : Fams (SL P T Fs N) (RT P TE) P t E :=
  ⟨fun j q hj h => .inl ⟨t, h0, j, by omega, h⟩, fun j q hj h => .inl ⟨t + 2 ^ E, h1, j, by omega, h⟩, fun j q hj h => ⟨(t, E), h2, j, by omega, h, rfl⟩⟩
theorem ST.fam {P : Pat} {T : List Nat} {t : Nat} (h : t ∈ T) : Fam (ST P T) (ev P.g t P.f) := fun j x y hj hx hy => ⟨t, h, j, by omega, SE.at (Nat.le_refl t) (by rw [Int.sub_self]; exact Int.dvd_zero _) hx hy⟩
def stillG : Gl := ⟨fun s => s, 0, 0, rfl, fun _ h => h, by decide, by decide⟩
theorem still_it : ∀ (n s : Nat), it stillG.m n s = s
  | 0, _ => rfl
  | n + 1, s => still_it n s
theorem still_ev (t : Nat) (f : Pl) : ev stillG t f = f := by
  funext x y
  show it stillG.m t (f (x + t * 0) (y + t * 0)) = _
  rw [still_it, Int.mul_zero, Int.add_zero, Int.add_zero]
def stillP (f : Pl) (X Y : Int) (bw bh : Nat) (le : ∀ x y, f x y ≤ 7) (ins : ∀ x y, f x y ≠ 0 → X ≤ x ∧ x < X + bw ∧ Y ≤ y ∧ y < Y + bh) (hw : 1 ≤ bw) (hh : 1 ≤ bh) : Pat where
  g := stillG
  f := f
  X := X
  Y := Y
  bw := bw
  bh := bh
  le := le
  ins := ins
  hw := hw
  hh := hh
  PC := 1
  cl := fun _ => 0
  cl_lt := fun _ => Nat.one_pos
  cl_ok := fun t t' _ x y => by rw [still_it, still_it]
def MemB (L : List C3) (X Y : Int) : Prop := ∀ c ∈ L, (X ≤ c.1 ∧ c.1 < X + 6) ∧ (Y ≤ c.2.1 ∧ c.2.1 < Y + 3) ∧ c.2.2 ≤ 7
theorem plOf_ins {L : List C3} {X Y : Int} (h : MemB L X Y) {x y : Int} (e : plOf L x y ≠ 0) : X ≤ x ∧ x < X + (6 : Nat) ∧ Y ≤ y ∧ y < Y + (3 : Nat) := by
  by_cases q : ∃ c ∈ L, x = c.1 ∧ y = c.2.1
  · obtain ⟨c, hc, e1, e2⟩ := q
    have := h c hc
    omega
  · exact absurd (plOf_out fun c hc z => q ⟨c, hc, z⟩) e
theorem MemB.take {L : List C3} {X Y : Int} (h : MemB L X Y) (i : Nat) : MemB (L.take i) X Y := fun c hc => h c (List.mem_of_mem_take hc)
theorem ndK.take {L : List C3} (h : ndK L) (i : Nat) : ndK (L.take i) := List.Nodup.sublist ((List.take_sublist _ _).map _) h
def mainP (g : Gl) (L : List C3) (X Y : Int) (nd : ndK L) (h : MemB L X Y) : Pat where
  g := g
  f := plOf L
  X := X
  Y := Y
  bw := 6
  bh := 3
  le := plOf_le nd fun c hc => (h c hc).2.2
  ins := fun x y e => plOf_ins h e
  hw := by decide
  hh := by decide
  PC := 427
  cl := cls7
  cl_lt := cls7_lt
  cl_ok := fun t t' e x y => by rw [it_cls7 g (plOf_le nd (fun c hc => (h c hc).2.2) x y) t, it_cls7 g (plOf_le nd (fun c hc => (h c hc).2.2) x y) t', e]
def preP (L : List C3) (X Y : Int) (nd : ndK L) (h : MemB L X Y) (i : Nat) : Pat := stillP (plOf (L.take i)) X Y 6 3 (plOf_le (nd.take i) fun c hc => ((h.take i) c hc).2.2) (fun x y e => plOf_ins (h.take i) e) (by decide) (by decide)
/-- the times of the law's jumps -/
def mT (a b k : Nat) : List Nat := [0, a % 2, a % 4, a, (k % 2) * 2 ^ b, k * 2 ^ b, k * 2 ^ b + 1]
def mTE (a b k : Nat) : List (Nat × Nat) := [(0, 0), (a % 2, 1), (a % 4, 2), (0, b), ((k % 2) * 2 ^ b, b + 1), (k * 2 ^ b, 0)]
section
variable {g : Gl} {L : List C3} {X Y : Int} {nd : ndK L} {h : MemB L X Y} {a b k : Nat}
def mS (g : Gl) (L : List C3) (X Y : Int) (nd : ndK L) (h : MemB L X Y) (a b k : Nat) : Q → Prop := SL (mainP g L X Y nd h) (mT a b k) (preP L X Y nd h) 20
def mR (g : Gl) (L : List C3) (X Y : Int) (nd : ndK L) (h : MemB L X Y) (a b k : Nat) : Q × Nat → Prop := RT (mainP g L X Y nd h) (mTE a b k)
theorem mS_bd : Bd (mS g L X Y nd h a b k) 16777216 := by
  have h1 := ST_bd (mainP g L X Y nd h) (mT a b k)
  have h2 : Bd (fun q => ∃ i, i < 20 ∧ ST (preP L X Y nd h i) [0] q) (20 * 3479) := Bd.ex fun i _ => (ST_bd (preP L X Y nd h i) [0]).mono (fun q h => h) (by show 1 * (49 * (1 + (6 + 4) * ((3 + 4) * 1))) ≤ 3479; decide)
  exact (h1.or (Solid_bd.or h2)).mono (fun q h => h) (by show 7 * (49 * (1 + (6 + 4) * ((3 + 4) * 427))) + (392 + 20 * 3479) ≤ 16777216; decide)
theorem mR_bd : Bd (mR g L X Y nd h a b k) 16777215 := (RT_bd (mainP g L X Y nd h) (mTE a b k)).mono (fun q h => h) (by show 6 * (49 * (1 + (6 + 4) * ((3 + 4) * 427))) ≤ 16777215; decide)
theorem mS_pre {i : Nat} (hi : i < 20) : Fam (mS g L X Y nd h a b k) (plOf (L.take i)) := fun j x y hj hx hy => by
  have := ST.fam (P := preP L X Y nd h i) (T := [0]) (t := 0) (List.mem_singleton.mpr rfl) j x y hj hx hy
  rw [show ev (preP L X Y nd h i).g 0 (preP L X Y nd h i).f = plOf (L.take i) from ev_zero _ _] at this
  exact .inr (.inr ⟨i, hi, this⟩)
theorem bit_lt {n e E : Nat} (h : n < 2 ^ E) (hb : n / 2 ^ e % 2 = 1) : e < E := Classical.byContradiction fun z => by
  have : n / 2 ^ e = 0 := Nat.div_eq_of_lt (Nat.lt_of_lt_of_le h (Nat.pow_le_pow_right (by omega) (by omega)))
  rw [this] at hb
  exact absurd hb (by decide)
theorem bit_up {n e : Nat} (hb : n / 2 ^ e % 2 = 1) : n % 2 ^ (e + 1) = n % 2 ^ e + 2 ^ e := by
  rw [Nat.pow_succ, Nat.mod_mul, hb, Nat.mul_one]
theorem mFam_a (ha : a < 8) : FamN (mS g L X Y nd h a b k) (mR g L X Y nd h a b k) (mainP g L X Y nd h) 0 a := fun e he => by
  have h3 := bit_lt (E := 3) (show a < 2 ^ 3 from ha) he
  have hu := bit_up he
  rw [Nat.zero_add]
  rcases (show e = 0 ∨ e = 1 ∨ e = 2 by omega) with rfl | rfl | rfl
  · refine SL.fams ?_ ?_ ?_
    · rw [Nat.pow_zero, Nat.mod_one]; simp [mT]
    · rw [← hu]; simp [mT]
    · rw [Nat.pow_zero, Nat.mod_one]; simp [mTE]
  · refine SL.fams ?_ ?_ ?_
    · simp [mT]
    · rw [← hu]; simp [mT]
    · simp [mTE]
  · refine SL.fams ?_ ?_ ?_
    · simp [mT]
    · rw [← hu, Nat.mod_eq_of_lt (show a < 2 ^ (2 + 1) from ha)]; simp [mT]
    · simp [mTE]
theorem mFam_n (hk : k < 4) : FamN (mS g L X Y nd h a b k) (mR g L X Y nd h a b k) (mainP g L X Y nd h) 0 (k * 2 ^ b) := fun e he => by
  rw [Nat.zero_add]
  have hp := Nat.two_pow_pos b
  have hu := bit_up he
  have hlt : k * 2 ^ b < 2 ^ (b + 2) := by
    rw [Nat.pow_add, Nat.mul_comm (2 ^ b)]
    exact Nat.mul_lt_mul_of_pos_right (by omega) hp
  have h3 := bit_lt hlt he
  by_cases hb : e < b
  · exfalso
    have : k * 2 ^ b / 2 ^ e = k * 2 ^ (b - e) := by
      rw [show b = (b - e) + e by omega, Nat.pow_add, ← Nat.mul_assoc, Nat.add_sub_cancel]
      exact Nat.mul_div_cancel _ (Nat.two_pow_pos e)
    rw [this, show b - e = (b - e - 1) + 1 by omega, Nat.pow_succ, ← Nat.mul_assoc, Nat.mul_mod_left] at he
    exact absurd he (by decide)
  · rcases (show e = b ∨ e = b + 1 by omega) with rfl | rfl
    · have ez : k * 2 ^ e % 2 ^ e = 0 := Nat.mul_mod_left _ _
      have e2 : k * 2 ^ e % 2 ^ (e + 1) = k % 2 * 2 ^ e := by rw [Nat.pow_succ, Nat.mul_comm (2 ^ e) 2, Nat.mul_mod_mul_right]
      rw [ez]
      rw [ez, e2] at hu
      refine SL.fams ?_ ?_ ?_
      · simp [mT]
      · rw [← hu]; simp [mT]
      · simp [mTE]
    · have e2 : k * 2 ^ b % 2 ^ (b + 1) = k % 2 * 2 ^ b := by rw [Nat.pow_succ, Nat.mul_comm (2 ^ b) 2, Nat.mul_mod_mul_right]
      rw [e2]
      rw [e2, Nat.mod_eq_of_lt (show k * 2 ^ b < 2 ^ (b + 1 + 1) from hlt)] at hu
      refine SL.fams ?_ ?_ ?_
      · simp [mT]
      · rw [← hu]; simp [mT]
      · simp [mTE]
theorem mFam_1 : FamN (mS g L X Y nd h a b k) (mR g L X Y nd h a b k) (mainP g L X Y nd h) (k * 2 ^ b) 1 := fun e he => by
  have h3 := bit_lt (E := 1) (show 1 < 2 ^ 1 by decide) he
  obtain rfl : e = 0 := by omega
  rw [Nat.pow_zero, Nat.mod_one, Nat.add_zero]
  refine SL.fams ?_ ?_ ?_
  · simp [mT]
  · simp [mT]
  · simp [mTE]
theorem mFam_0 {t : Nat} : FamN (mS g L X Y nd h a b k) (mR g L X Y nd h a b k) (mainP g L X Y nd h) t 0 := fun e he => by
  rw [Nat.zero_div] at he
  exact absurd he (by decide)
end
end Jf
/-! JfK3 -/
set_option autoImplicit true
/-! The count for a box. -/
namespace Jf
open PySem PySem.Spec PyProof.Rows L2
theorem ind_le {b : Bx} {s : Nat} (h : s ≤ 7) (x y : Int) : ind b s x y ≤ 7 := by
  unfold ind
  split
  · exact h
  · exact Nat.zero_le _
def boxP (g : Gl) (b : Bx) (st : Nat) (hw : 1 ≤ b.2.2.1) (hh : 1 ≤ b.2.2.2) (hs : st ≤ 7) : Pat where
  g := g
  f := ind b st
  X := b.1
  Y := b.2.1
  bw := b.2.2.1.toNat
  bh := b.2.2.2.toNat
  le := ind_le hs
  ins := fun x y e => by
    unfold ind at e
    by_cases q : b.1 ≤ x ∧ x < b.1 + b.2.2.1 ∧ b.2.1 ≤ y ∧ y < b.2.1 + b.2.2.2
    · omega
    · rw [if_neg q] at e
      exact absurd rfl e
  hw := by omega
  hh := by omega
  PC := 8
  cl := fun t => it g.m t st
  cl_lt := fun t => by have := g.itle hs t; omega
  cl_ok := fun t t' e x y => by
    unfold ind
    split
    · exact e
    · rw [g.it0, g.it0]
def bT (n : Nat) : List Nat := (List.range 9).map (fun i => n % 2 ^ i) ++ (List.range 9).map (fun i => (n + 1) % 2 ^ i)
def bTE (n : Nat) : List (Nat × Nat) := (List.range 8).map (fun i => (n % 2 ^ i, i)) ++ (List.range 8).map (fun i => ((n + 1) % 2 ^ i, i))
theorem bT_at {n c i : Nat} (hc : c = n ∨ c = n + 1) (hi : i < 9) : c % 2 ^ i ∈ bT n := by
  rcases hc with rfl | rfl
  · exact List.mem_append_left _ (List.mem_map.mpr ⟨i, List.mem_range.mpr hi, rfl⟩)
  · exact List.mem_append_right _ (List.mem_map.mpr ⟨i, List.mem_range.mpr hi, rfl⟩)
theorem bTE_at {n c i : Nat} (hc : c = n ∨ c = n + 1) (hi : i < 8) : (c % 2 ^ i, i) ∈ bTE n := by
  rcases hc with rfl | rfl
  · exact List.mem_append_left _ (List.mem_map.mpr ⟨i, List.mem_range.mpr hi, rfl⟩)
  · exact List.mem_append_right _ (List.mem_map.mpr ⟨i, List.mem_range.mpr hi, rfl⟩)
section
variable {g : Gl} {b : Bx} {st : Nat} {hw : 1 ≤ b.2.2.1} {hh : 1 ≤ b.2.2.2} {hs : st ≤ 7} {n : Nat}
def bS (g : Gl) (b : Bx) (st : Nat) (hw : 1 ≤ b.2.2.1) (hh : 1 ≤ b.2.2.2) (hs : st ≤ 7) (n : Nat) : Q → Prop := SL (boxP g b st hw hh hs) (bT n) (fun _ => boxP g b st hw hh hs) 0
def bR (g : Gl) (b : Bx) (st : Nat) (hw : 1 ≤ b.2.2.1) (hh : 1 ≤ b.2.2.2) (hs : st ≤ 7) (n : Nat) : Q × Nat → Prop := RT (boxP g b st hw hh hs) (bTE n)
theorem box_area {w h : Nat} (hw : w ≤ 40) (hh : h ≤ 40) : 49 * (1 + (w + 4) * ((h + 4) * 8)) ≤ 758961 := by
  have h1 : (h + 4) * 8 ≤ 352 := by omega
  have h2 : (w + 4) * ((h + 4) * 8) ≤ 44 * 352 := Nat.mul_le_mul (by omega) h1
  omega
theorem bS_bd (w40 : b.2.2.1 ≤ 40) (h40 : b.2.2.2 ≤ 40) : Bd (bS g b st hw hh hs n) 16777216 := by
  have h1 := (ST_bd (boxP g b st hw hh hs) (bT n)).mono (M := 18 * 758961) (fun q h => h) (Nat.mul_le_mul (Nat.le_of_eq (by simp [bT])) (box_area (w := b.2.2.1.toNat) (h := b.2.2.2.toNat) (by omega) (by omega)))
  have h2 : Bd (fun q => ∃ i, i < 0 ∧ ST (boxP g b st hw hh hs) [0] q) 0 := Bd.none fun q ⟨i, hi, _⟩ => Nat.not_lt_zero i hi
  exact (h1.or (Solid_bd.or h2)).mono (fun q h => h) (by decide)
theorem bR_bd (w40 : b.2.2.1 ≤ 40) (h40 : b.2.2.2 ≤ 40) : Bd (bR g b st hw hh hs n) 16777215 :=
  (RT_bd (boxP g b st hw hh hs) (bTE n)).mono (fun q h => h) (Nat.le_trans (Nat.mul_le_mul (Nat.le_of_eq (by simp [bTE])) (box_area (w := b.2.2.1.toNat) (h := b.2.2.2.toNat) (by omega) (by omega))) (show 16 * 758961 ≤ 16777215 by decide))
theorem bFam {c : Nat} (hc : c = n ∨ c = n + 1) (h : c < 256) : FamN (bS g b st hw hh hs n) (bR g b st hw hh hs n) (boxP g b st hw hh hs) 0 c := fun e he => by
  have h8 := bit_lt (E := 8) (show c < 2 ^ 8 from h) he
  have hu := bit_up he
  rw [Nat.zero_add]
  exact SL.fams (bT_at hc (by omega)) (by rw [← hu]; exact bT_at hc (by omega)) (bTE_at hc h8)
theorem bS_at {c : Nat} (hc : c = n ∨ c = n + 1) (h : c < 256) : Fam (bS g b st hw hh hs n) (ev g c (ind b st)) := fun j x y hj hx hy => by
  have hm := bT_at (n := n) hc (show 8 < 9 by decide)
  rw [Nat.mod_eq_of_lt (show c < 2 ^ 8 from h)] at hm
  exact .inl (ST.fam (P := boxP g b st hw hh hs) hm j x y hj hx hy)
theorem bS_0 : Fam (bS g b st hw hh hs n) (ind b st) := fun j x y hj hx hy => by
  have hm := bT_at (n := n) (.inl rfl) (show 0 < 9 by decide)
  rw [Nat.pow_zero, Nat.mod_one] at hm
  have := ST.fam (P := boxP g b st hw hh hs) hm j x y hj hx hy
  rw [show ev (boxP g b st hw hh hs).g 0 (boxP g b st hw hh hs).f = ind b st from ev_zero _ _] at this
  exact .inl this
end
def shift (g : Gl) (n : Nat) (b : Bx) : Bx := (b.1 - n * g.ox, b.2.1 - n * g.oy, b.2.2.1, b.2.2.2)
theorem ev_ind (g : Gl) (b : Bx) (st n : Nat) : ev g n (ind b st) = ind (shift g n b) (it g.m n st) := by
  funext x y
  show it g.m n (if b.1 ≤ x + n * g.ox ∧ x + n * g.ox < b.1 + b.2.2.1 ∧ b.2.1 ≤ y + n * g.oy ∧ y + n * g.oy < b.2.1 + b.2.2.2 then st else 0) = (if b.1 - n * g.ox ≤ x ∧ x < b.1 - n * g.ox + b.2.2.1 ∧ b.2.1 - n * g.oy ≤ y ∧ y < b.2.1 - n * g.oy + b.2.2.2 then it g.m n st else 0)
  by_cases q : b.1 ≤ x + n * g.ox ∧ x + n * g.ox < b.1 + b.2.2.1 ∧ b.2.1 ≤ y + n * g.oy ∧ y + n * g.oy < b.2.1 + b.2.2.2
  · rw [if_pos q, if_pos (by omega)]
  · rw [if_neg q, if_neg (by omega), g.it0]
end Jf
/-! JfLa -/
set_option autoImplicit true
/-! Words for the law's two walks. -/
namespace Jf
open PySem PySem.Spec PyProof.Rows L2 NdefX
theorem isF_ex {f : Pl} : ∀ {K : Nat}, 1 ≤ K → sup f K → ∃ k, isF f k ∧ k ≤ K
  | 0, h, _ => absurd h (by decide)
  | 1, h, s => ⟨1, ⟨h, s, .inl rfl⟩, Nat.le_refl _⟩
  | K + 2, h, s => by
    by_cases q : sup f (K + 1)
    · obtain ⟨k, hk, le⟩ := isF_ex (by omega) q
      exact ⟨k, hk, by omega⟩
    · exact ⟨K + 2, ⟨h, s, .inr q⟩, Nat.le_refl _⟩
theorem isF_bnd {f : Pl} {B : Int} (h : bnd f B) (hB : B ≤ LIM) : ∃ k, isF f k ∧ k ≤ 41 :=
  isF_ex (K := 41) (by decide) (bnd_mono h (by rw [show p2 (41 - 1) = LIM from lim_eq]; exact hB))
section
variable {K : PySem.W.Frag} {S : Q → Prop} {R : Q × Nat → Prop} {gl : Gl} {jp g r d : Addr} {cs : List Cl} {w w' : GWd} {O O' H H' : Hp}
/-- lists and instances stand -/
def ExtL (O O' : Hp) : Prop := ∀ b o, O b = some o → ((∃ l, o = .lst l) ∨ ∃ C dx fs, o = .ins C dx fs) → O' b = some o
theorem ExtL.of (e : LamX.ExtN O O') : ExtL O O' := fun b o h z => e b o h (fun ps q => by
  subst q
  rcases z with ⟨l, z⟩ | ⟨C, dx, fs, z⟩ <;> cases z)
theorem PlacesAt.l {p : Addr} {ws : List (Option Nat)} (h : PlacesAt K O p ws) (e : ExtL O O') : PlacesAt K O' p ws := by
  obtain ⟨d, l, h1, h2⟩ := h
  exact ⟨d, l, e _ _ h1 (.inr ⟨_, _, _, rfl⟩), e _ _ h2 (.inl ⟨_, rfl⟩)⟩
theorem ClauseAt.l {p : Addr} {c : Cl} (h : ClauseAt K O p c) (e : ExtL O O') : ClauseAt K O' p c := by
  obtain ⟨d, l, ps, h1, h2, h3, h4⟩ := h
  exact ⟨d, l, ps, e _ _ h1 (.inr ⟨_, _, _, rfl⟩), e _ _ h2 (.inl ⟨_, rfl⟩), h3, fun i q ws a b => (h4 i q ws a b).l e⟩
theorem RuleIs.l (h : RuleIs K O r cs) (e : ExtL O O') : RuleIs K O' r cs := by
  obtain ⟨d, l, ps, h1, h2, h3, h4⟩ := h
  exact ⟨d, l, ps, e _ _ h1 (.inr ⟨_, _, _, rfl⟩), e _ _ h2 (.inl ⟨_, rfl⟩), h3, fun i q ws a b => (h4 i q ws a b).l e⟩
theorem RuleIs.n (h : RuleIs K O r cs) (e : LamX.ExtN O O') : RuleIs K O' r cs := h.l (ExtL.of e)
theorem JoAt.n (h : JoAt K O jp g r d) (e : LamX.ExtN O O') : JoAt K O' jp g r d := by
  obtain ⟨dj, h⟩ := h
  exact ⟨dj, e _ _ h (fun ps z => by cases z)⟩
theorem JV.n (h : JV R gl w O d) (x : ExC w w') (e : LamX.ExtN O O') : JV R gl w' O' d := by
  obtain ⟨b, kv, ks, h1, h2, h3, h4, h5⟩ := h
  refine ⟨b, kv, ks, e _ _ h1 (fun ps z => by cases z), h2, h3, fun p hp => ?_, fun l v hv => ?_⟩
  · obtain ⟨r, i, a, c⟩ := h4 p hp
    exact ⟨r, i, x _ _ a, c⟩
  · obtain ⟨i, e, r, j, f, x', y', a, b, c, d, f'⟩ := h5 l v hv
    exact ⟨i, e, r, j, f, x', y', a, b, c, x _ _ d, x _ _ f'⟩
theorem JS.n (h : JS K S R gl jp g r d cs w O H) (G : GV K S g w' O' H') (x : ExC w w') (e : LamX.ExtN O O') : JS K S R gl jp g r d cs w' O' H' := ⟨h.jo.n e, h.ru.n e, h.rg, G, h.jv.n x e⟩
theorem JS.s (h : JS K S R gl jp g r d cs w O H) (G : GV K S g w' O' H') (x : ExC w w') (e : Same O O') : JS K S R gl jp g r d cs w' O' H' := h.n G x (LamX.ExtN.of e)
/-- things of the law's own stand -/
theorem JS.out (h : JS K S R gl jp g r d cs w O H) {a : Addr} {o : HO} (e : O a = some o) : H a = some o := by
  obtain ⟨s, G⟩ := h.gv
  exact G.sub e
theorem tabs_x {T : List NTab} {kv : List (List Key × V)} (t : TabsN T O) (hd : O d = some (.dT kv)) (e : SameX d O O') : TabsN T O' := fun p hp => by
  obtain ⟨ps, h1, h2, h3⟩ := t p hp
  refine ⟨ps, e _ _ (fun z => by rw [z, hd] at h1; cases h1) h1, h2, fun pos cv hc => ?_⟩
  obtain ⟨c, e1, e2⟩ := h3 pos cv hc
  exact ⟨c, e1, e _ _ (fun z => by rw [z, hd] at e2; cases e2) e2⟩
theorem JV.new (hR : Bd R 16777215) (h : O d = some (.dT [])) : JV R gl w O d := ⟨hR, [], [], h, rfl, List.nodup_nil, fun p hp => (by cases hp), fun l v hv => (by cases hv)⟩
end
section
variable {K : PySem.W.Frag}
theorem sql_n {H H' : Hp} {a : Addr} {xs : List V} (h : SqL K H a xs) (e : LamX.ExtN H H') : SqL K H' a xs := by
  rcases h with (h | ⟨o, h⟩) | h
  · exact .inl (.inl (e _ _ h (fun ps z => by cases z)))
  · exact .inl (.inr ⟨o, e _ _ h (fun ps z => by cases z)⟩)
  · exact .inr h
end
end Jf
namespace Jf
open PySem PySem.Spec PyProof.Rows L2 NdefX
section
variable {K : PySem.W.Frag} {S : Q → Prop} {g : Addr} {t : GS} {O2 H2 H5 : Hp}
def lkd (H : Hp) (t : GS) (od1 od2 od3 od4 : Obj) : Hp := upd (upd (upd (upd H t.lM (.frz od1 (.lst []))) t.lL (.frz od2 (.lst []))) t.lV (.frz od3 (.lst []))) t.lS (.frz od4 (.lst []))
def ulk (H : Hp) (t : GS) : Hp := upd (upd (upd (upd H t.lS (.lst [])) t.lV (.lst [])) t.lL (.lst [])) t.lM (.lst [])
theorem own_ne (G : GVs K S g ⟨[], []⟩ t O2 H2) : t.lM ≠ t.lL ∧ t.lM ≠ t.lV ∧ t.lM ≠ t.lS ∧ t.lL ≠ t.lV ∧ t.lL ≠ t.lS ∧ t.lV ≠ t.lS := by
  have h : [t.dN, t.lM, t.lL, t.lV, t.lS, t.dP].Nodup := G.nd
  simp only [List.nodup_cons, List.mem_cons, not_or] at h
  obtain ⟨_, ⟨a, b, c, _⟩, ⟨d, e, _⟩, ⟨f, _⟩, _⟩ := h
  exact ⟨a, b, c, d, e, f⟩
theorem own_lists (G : GVs K S g ⟨[], []⟩ t O2 H2) : H2 t.lM = some (.lst []) ∧ H2 t.lL = some (.lst []) ∧ H2 t.lV = some (.lst []) ∧ H2 t.lS = some (.lst []) := by
  have e1 : t.ma = [] := List.eq_nil_of_length_eq_zero G.lm
  have e2 : t.sp = [] := List.eq_nil_of_length_eq_zero G.ls
  have h1 := G.hM
  have h4 := G.hS
  rw [e1] at h1
  rw [e2] at h4
  exact ⟨h1, G.hL, G.hV, h4⟩
theorem lkd_none {od1 od2 od3 od4 : Obj} {d : Addr} (h : H5 d = none) (e : Same (lkd H2 t od1 od2 od3 od4) H5) : H2 d = none := by
  refine Classical.byContradiction fun z => ?_
  have : lkd H2 t od1 od2 od3 od4 d ≠ none := by
    unfold lkd upd
    repeat' split
    all_goals first | exact z | exact nofun
  cases q : lkd H2 t od1 od2 od3 od4 d with
  | none => exact this q
  | some o => rw [e _ _ q] at h; cases h
theorem own_locked (G : GVs K S g ⟨[], []⟩ t O2 H2) {od1 od2 od3 od4 : Obj} (e : Same (lkd H2 t od1 od2 od3 od4) H5) :
    (H5 t.lS = some (.frz od4 (.lst [])) ∧ (upd H5 t.lS (.lst [])) t.lV = some (.frz od3 (.lst [])) ∧ (upd (upd H5 t.lS (.lst [])) t.lV (.lst [])) t.lL = some (.frz od2 (.lst [])) ∧ (upd (upd (upd H5 t.lS (.lst [])) t.lV (.lst [])) t.lL (.lst [])) t.lM = some (.frz od1 (.lst []))) ∧
    ∃ O6, GVs K S g ⟨[], []⟩ t O6 (ulk H5 t) ∧ Same O2 O6 ∧ ExtL H5 O6 ∧ ∀ a o, H2 a = none → H5 a = some o → O6 a = some o := by
  obtain ⟨n1, n2, n3, n4, n5, n6⟩ := own_ne G
  obtain ⟨h1, h2, h3, h4⟩ := own_lists G
  have k4 : H5 t.lS = some (.frz od4 (.lst [])) := e _ _ upd_same
  have k3 : H5 t.lV = some (.frz od3 (.lst [])) := e _ _ (by unfold lkd; rw [upd_ne n6, upd_same])
  have k2 : H5 t.lL = some (.frz od2 (.lst [])) := e _ _ (by unfold lkd; rw [upd_ne n5, upd_ne n4, upd_same])
  have k1 : H5 t.lM = some (.frz od1 (.lst [])) := e _ _ (by unfold lkd; rw [upd_ne n3, upd_ne n2, upd_ne n1, upd_same])
  have out : ∀ a, a ≠ t.lM → a ≠ t.lL → a ≠ t.lV → a ≠ t.lS → ulk H5 t a = H5 a := fun a a1 a2 a3 a4 => by
    unfold ulk
    rw [upd_ne a1, upd_ne a2, upd_ne a3, upd_ne a4]
  have s6 : Same H2 (ulk H5 t) := fun b o h => by
    by_cases b1 : b = t.lM
    · subst b1; unfold ulk; rw [upd_same]; rw [h1] at h; exact h
    by_cases b2 : b = t.lL
    · subst b2; unfold ulk; rw [upd_ne b1, upd_same]; rw [h2] at h; exact h
    by_cases b3 : b = t.lV
    · subst b3; unfold ulk; rw [upd_ne b1, upd_ne b2, upd_same]; rw [h3] at h; exact h
    by_cases b4 : b = t.lS
    · subst b4; unfold ulk; rw [upd_ne b1, upd_ne b2, upd_ne b3, upd_same]; rw [h4] at h; exact h
    rw [out b b1 b2 b3 b4]
    exact e _ _ (by unfold lkd; rw [upd_ne b4, upd_ne b3, upd_ne b2, upd_ne b1]; exact h)
  obtain ⟨O6, G6, sO6, nw6⟩ := G.after s6
  refine ⟨⟨k4, by rw [upd_ne n6]; exact k3, by rw [upd_ne n4, upd_ne n5]; exact k2, by rw [upd_ne n1, upd_ne n2, upd_ne n3]; exact k1⟩, O6, G6, sO6, fun a o h z => ?_, fun a o h h' => ?_⟩
  · have a1 : a ≠ t.lM := fun q => by
      rw [q, k1] at h
      rcases z with ⟨l, rfl⟩ | ⟨C, dx, fs, rfl⟩ <;> cases h
    have a2 : a ≠ t.lL := fun q => by
      rw [q, k2] at h
      rcases z with ⟨l, rfl⟩ | ⟨C, dx, fs, rfl⟩ <;> cases h
    have a3 : a ≠ t.lV := fun q => by
      rw [q, k3] at h
      rcases z with ⟨l, rfl⟩ | ⟨C, dx, fs, rfl⟩ <;> cases h
    have a4 : a ≠ t.lS := fun q => by
      rw [q, k4] at h
      rcases z with ⟨l, rfl⟩ | ⟨C, dx, fs, rfl⟩ <;> cases h
    have h6 : ulk H5 t a = some o := (out a a1 a2 a3 a4).trans h
    rw [G6.out a fun m => ?_]
    · exact h6
    · have m2 : a ∈ [t.dN, t.lM, t.lL, t.lV, t.lS, t.dP] := m
      simp only [List.mem_cons, List.not_mem_nil, or_false] at m2
      rcases m2 with q | q | q | q | q | q
      · rw [q, G6.hN] at h6
        rcases z with ⟨l, rfl⟩ | ⟨C, dx, fs, rfl⟩ <;> cases h6
      · exact a1 q
      · exact a2 q
      · exact a3 q
      · exact a4 q
      · rw [q, G6.hP] at h6
        rcases z with ⟨l, rfl⟩ | ⟨C, dx, fs, rfl⟩ <;> cases h6
  · have ne : ∀ b, H2 b ≠ none → a ≠ b := fun b hb q => by rw [q] at h; exact hb h
    refine nw6 a o h ((out a (ne _ (by rw [h1]; exact nofun)) (ne _ (by rw [h2]; exact nofun)) (ne _ (by rw [h3]; exact nofun)) (ne _ (by rw [h4]; exact nofun))).trans h')
end
end Jf
/-! JfLb -/
set_option autoImplicit true
/-! The box. -/
namespace Jf
open PySem PySem.Spec PyProof.Rows L2 NdefX
section
variable {P : Program} {w : World} {K : PySem.W.Frag} {mg : Str → Option Value} {base : Heap}
def bxN (ns : List Int) : Nat := (sAt ns 8 / 3 % 4).toNat * 2 ^ (sAt ns 9 % 7).toNat
def bxB (ns : List Int) : Bx := (sAt ns 10 % 30 - 20, sAt ns 11 % 30 - 20, 1 + sAt ns 13 % 40, 1 + sAt ns 14 % 40)
def bxS (ns : List Int) : Nat := (1 + sAt ns 15 % 7).toNat
theorem bxN_lt (ns : List Int) : bxN ns + 1 < 256 := by
  have h1 : (sAt ns 8 / 3 % 4).toNat ≤ 3 := by omega
  have h2 : 2 ^ (sAt ns 9 % 7).toNat ≤ 2 ^ 6 := Nat.pow_le_pow_right (by omega) (by omega)
  have h3 := Nat.mul_le_mul h1 h2
  unfold bxN
  omega
theorem lies_lim {b : Bx} (x : -1000 ≤ b.1 ∧ b.1 + b.2.2.1 ≤ 1000) (y : -1000 ≤ b.2.1 ∧ b.2.1 + b.2.2.2 ≤ 1000) : lies b LIM = true := by
  unfold lies
  rw [decide_eq_false (show ¬ b.1 < -LIM by show ¬ b.1 < -1099511627776; omega), decide_eq_false (show ¬ b.1 + b.2.2.1 > LIM by show ¬ b.1 + b.2.2.1 > 1099511627776; omega), decide_eq_true (show -LIM ≤ b.2.1 by show -1099511627776 ≤ b.2.1; omega), decide_eq_true (show b.2.1 + b.2.2.2 ≤ LIM by show b.2.1 + b.2.2.2 ≤ 1099511627776; omega)]
  rfl
theorem ind_bnd {b : Bx} {st : Nat} (hX : -20 ≤ b.1 ∧ b.1 + b.2.2.1 ≤ 60) (hY : -20 ≤ b.2.1 ∧ b.2.1 + b.2.2.2 ≤ 60) : bnd (ind b st) 1000 := fun x y e => by
  unfold ind at e
  by_cases q : b.1 ≤ x ∧ x < b.1 + b.2.2.1 ∧ b.2.1 ≤ y ∧ y < b.2.1 + b.2.2.2
  · omega
  · rw [if_neg q] at e
    exact absurd rfl e
theorem mul_off {c : Nat} {o : Int} (h : -1 ≤ o ∧ o ≤ 1) : -(c : Int) ≤ c * o ∧ (c : Int) * o ≤ c := by
  rcases (show o = -1 ∨ o = 0 ∨ o = 1 by omega) with rfl | rfl | rfl <;> omega
theorem ids_eq {l : List Q} (h : l.Nodup) {i j : Nat} {q : Q} (a : l[i]? = some q) (b : l[j]? = some q) : i = j := (List.getElem?_inj (List.getElem?_eq_some_iff.mp a).1 h).mp (a.trans b.symm)
def spBoxRight (K : PySem.W.Frag) : Sp := fun vs H Qk _ => ∃ (a ma : Addr) (ns : List Int) (m : Nat → Nat) (y : Nat), vs = [.ref a, .ref ma, .int (y : Nat)] ∧ SqL K H a (ns.map V.int) ∧ H ma = some (.lst (fl8 m)) ∧ m 0 = 0 ∧ (∀ s, s < 8 → m s < 8) ∧ y < 9 ∧ TabsN (tabF K) H ∧
  ∀ H', LamX.ExtN H H' → TabsN (tabF K) H' → Qk (.bl true) H'
theorem sc_law_box_right : FnScope [("_law_script" : Str), ("_law_made" : Str), ("_law_way" : Str), ("_law_n" : Str), ("_law_left" : Str), ("_law_top" : Str), ("_law_wide" : Str), ("_law_high" : Str), ("_law_state" : Str), ("_law_step" : Str), ("_law_grove" : Str), ("_law_jumps" : Str), ("_law_none" : Str), ("_law_field" : Str), ("_law_many" : Str), ("_law_box" : Str), ("_law_found" : Str)] ["_law_script", "_law_made", "_law_way"] (defScope s_law_box_right) := ⟨rfl, rfl, rfl, by decide +kernel, rfl, by decide +kernel, by decide +kernel⟩
theorem ok_law_box_right (T : Txt K mg) (hTB : LamX.TabB base mg (He.codeOf K ("filled", none)) (He.cT K ("filled", none)).2) : Ok P w K mg base ("_law_box_right", none) ["_law_script", "_law_made", "_law_way"] 60 (spBoxRight K) := by
  obtain ⟨fd_law_at, G_law_at, b_law_at, k_law_at⟩ := ok_law_at (P := P) (w := w) (base := base) T
  obtain ⟨fd_law_offset, G_law_offset, b_law_offset, k_law_offset⟩ := ok_law_offset (P := P) (w := w) (base := base) T
  obtain ⟨fd_read_rule, G_read_rule, b_read_rule, k_read_rule⟩ := ok_read_rule (P := P) (w := w) (base := base) T
  obtain ⟨fd_law_glide_text, G_law_glide_text, b_law_glide_text, k_law_glide_text⟩ := ok_law_glide_text (P := P) (w := w) (base := base) T
  obtain ⟨fd_law_mapped, G_law_mapped, b_law_mapped, k_law_mapped⟩ := ok_law_mapped (P := P) (w := w) (base := base) T
  obtain ⟨fd_Jumps_init, G_Jumps_init, b_Jumps_init, k_Jumps_init⟩ := ok_Jumps_init (P := P) (w := w) (base := base) T
  refine Ok.of T.d_law_box_right sc_law_box_right (fun vs H Q E h => ?_) (fun cdv A outer s H vs Q E hr h => ?_)
  · obtain ⟨a, ma, ns, m, y, rfl, _⟩ := h
    rfl
  obtain ⟨a, ma, ns, m, y, rfl, hS, hma, m0, hm, hy, hT, q⟩ := h
  obtain ⟨b, hb⟩ : ∃ b, b = bxB ns := ⟨_, rfl⟩
  obtain ⟨n, hn⟩ : ∃ n, n = bxN ns := ⟨_, rfl⟩
  obtain ⟨st, hst⟩ : ∃ st, st = bxS ns := ⟨_, rfl⟩
  have n256 : n + 1 < 256 := by rw [hn]; exact bxN_lt ns
  have hw : 1 ≤ b.2.2.1 ∧ b.2.2.1 ≤ 40 := by rw [hb]; show 1 ≤ 1 + sAt ns 13 % 40 ∧ 1 + sAt ns 13 % 40 ≤ 40; omega
  have hh : 1 ≤ b.2.2.2 ∧ b.2.2.2 ≤ 40 := by rw [hb]; show 1 ≤ 1 + sAt ns 14 % 40 ∧ 1 + sAt ns 14 % 40 ≤ 40; omega
  have hX : -20 ≤ b.1 ∧ b.1 + b.2.2.1 ≤ 60 := by rw [hb]; show -20 ≤ sAt ns 10 % 30 - 20 ∧ sAt ns 10 % 30 - 20 + (1 + sAt ns 13 % 40) ≤ 60; omega
  have hY : -20 ≤ b.2.1 ∧ b.2.1 + b.2.2.2 ≤ 60 := by rw [hb]; show -20 ≤ sAt ns 11 % 30 - 20 ∧ sAt ns 11 % 30 - 20 + (1 + sAt ns 14 % 40) ≤ 60; omega
  have hs7 : st ≤ 7 := by rw [hst]; unfold bxS; omega
  obtain ⟨gl, hgl⟩ : ∃ gl, gl = glOf m y m0 hm hy := ⟨_, rfl⟩
  obtain ⟨S, hSd⟩ : ∃ S, S = bS gl b st hw.1 hh.1 hs7 n := ⟨_, rfl⟩
  obtain ⟨R, hRd⟩ : ∃ R, R = bR gl b st hw.1 hh.1 hs7 n := ⟨_, rfl⟩
  obtain ⟨fd_Grove_init, G_Grove_init, b_Grove_init, k_Grove_init⟩ := ok_Grove_init (P := P) (w := w) (base := base) (S := S) T
  obtain ⟨fd_Grove_solid, G_Grove_solid, b_Grove_solid, k_Grove_solid⟩ := ok_Grove_solid (P := P) (w := w) (base := base) (S := S) T
  obtain ⟨fd_filled, G_filled, b_filled, k_filled⟩ := ok_filled (P := P) (w := w) (base := base) (S := S) T hTB
  obtain ⟨fd_jump, G_jump, b_jump, k_jump⟩ := ok_jump (P := P) (w := w) (base := base) (S := S) (R := R) T
  refine ⟨_, (pss_cons (ps_set (i := 3) sc_law_box_right.nd rfl (Or.inl rfl) (pe_op op_shl (pe_op op_mod (pe_op op_fdiv (pe_call G_law_at (hr.mono (by omega)) (by rfl) T.g_law_at k_law_at b_law_at .nil pass0 (pa_cons (pv 0) (pa_cons pe_int pa_nil))) pe_int) pe_int) (pe_op op_mod (pe_call G_law_at (hr.mono (by omega)) (by rfl) T.g_law_at k_law_at b_law_at .nil pass0 (pa_cons (pv 0) (pa_cons pe_int pa_nil))) pe_int)))
      (pss_cons (ps_set (i := 4) sc_law_box_right.nd rfl (Or.inl rfl) (pe_op op_sub (pe_op op_mod (pe_call G_law_at (hr.mono (by omega)) (by rfl) T.g_law_at k_law_at b_law_at .nil pass0 (pa_cons (pv 0) (pa_cons pe_int pa_nil))) pe_int) pe_int))
      (pss_cons (ps_set (i := 5) sc_law_box_right.nd rfl (Or.inl rfl) (pe_op op_sub (pe_op op_mod (pe_call G_law_at (hr.mono (by omega)) (by rfl) T.g_law_at k_law_at b_law_at .nil pass0 (pa_cons (pv 0) (pa_cons pe_int pa_nil))) pe_int) pe_int))
      (pss_cons (ps_set (i := 6) sc_law_box_right.nd rfl (Or.inl rfl) (pe_op op_add pe_int (pe_op op_mod (pe_call G_law_at (hr.mono (by omega)) (by rfl) T.g_law_at k_law_at b_law_at .nil pass0 (pa_cons (pv 0) (pa_cons pe_int pa_nil))) pe_int)))
      (pss_cons (ps_set (i := 7) sc_law_box_right.nd rfl (Or.inl rfl) (pe_op op_add pe_int (pe_op op_mod (pe_call G_law_at (hr.mono (by omega)) (by rfl) T.g_law_at k_law_at b_law_at .nil pass0 (pa_cons (pv 0) (pa_cons pe_int pa_nil))) pe_int)))
      (pss_cons (ps_set (i := 8) sc_law_box_right.nd rfl (Or.inl rfl) (pe_op op_add pe_int (pe_op op_mod (pe_call G_law_at (hr.mono (by omega)) (by rfl) T.g_law_at k_law_at b_law_at .nil pass0 (pa_cons (pv 0) (pa_cons pe_int pa_nil))) pe_int)))
      (C8.pss_cut (ps_set (i := 9) sc_law_box_right.nd rfl (Or.inl rfl) (pe_call G_law_offset (hr.mono (by omega)) (by rfl) T.g_law_offset k_law_offset b_law_offset .nil pass0 (pa_cons (pv 2) pa_nil)))
      (pss_cons (ps_set (i := 10) sc_law_box_right.nd rfl (Or.inl rfl) (pe_make0 T.k_Grove G_Grove_init (hr.mono (by omega)) (by rfl) T.g_Grove b_Grove_init .nil pass0))
      (pss_cons (ps_lock (ps_lock (ps_lock (ps_lock (ps_set (i := 11) sc_law_box_right.nd rfl (Or.inl rfl) (pe_make T.k_Jumps G_Jumps_init (hr.mono (by omega)) (by rfl) T.g_Jumps b_Jumps_init .nil pass0 (pa_cons (pv 10) (pa_cons (pe_call G_read_rule (hr.mono (by omega)) (by rfl) T.g_read_rule k_read_rule b_read_rule .nil pass0 (pa_cons (pe_call G_law_glide_text (hr.mono (by omega)) (by rfl) T.g_law_glide_text k_law_glide_text b_law_glide_text .nil pass0 (pa_cons (pv 1) (pa_cons (pv 2) pa_nil))) pa_nil)) pa_nil))))))))
      (pss_cons (ps_set (i := 12) sc_law_box_right.nd rfl (Or.inl rfl) (pe_meth (pv 10) T.c_Grove T.m_Grove_solid G_Grove_solid (hr.mono (by omega)) b_Grove_solid .nil pass0 (pa_cons pe_int (pa_cons pe_int pa_nil))))
      (C8.pss_cut (ps_set (i := 13) sc_law_box_right.nd rfl (Or.inl rfl) (pe_call G_filled (hr.mono (by omega)) (by rfl) T.g_filled k_filled b_filled .nil pass0 (pa_cons (pv 10) (pa_cons (pv 12) (pa_cons (pe_tup (pa_cons (pv 4) (pa_cons (pv 5) (pa_cons (pv 6) (pa_cons (pv 7) pa_nil))))) (pa_cons (pv 8) pa_nil))))))
      (pss_cons (ps_for PassesOwn.never (by rfl) (pi_list (pe_lst (pa_cons (pv 3) (pa_cons (pe_op op_add (pv 3) pe_int) pa_nil)))) (pg_name (i := 14) sc_law_box_right.nd rfl (Or.inl rfl)) (pss_cons (ps_set (i := 15) sc_law_box_right.nd rfl (Or.inl rfl) (pe_tup (pa_cons (pe_op op_sub (pv 4) (pe_op op_mul (pv 14) (pe_ix ix_tup (pv 9) pe_int (fun _ _ => rfl)))) (pa_cons (pe_op op_sub (pv 5) (pe_op op_mul (pv 14) (pe_ix ix_tup (pv 9) pe_int (fun _ _ => rfl)))) (pa_cons (pv 6) (pa_cons (pv 7) pa_nil))))))
      (pss_cons (ps_set (i := 16) sc_law_box_right.nd rfl (Or.inl rfl) (pe_call G_jump (hr.mono (by omega)) (by rfl) T.g_jump k_jump b_jump .nil pass0 (pa_cons (pv 11) (pa_cons (pv 13) (pa_cons (pv 14) pa_nil)))))
      (pss_cons (ps_if (PW.pt (pw_or (pt_not (pt_val (pe_callB call_isi (by rfl) T.f_isinstance (by decide +kernel) (pa_cons (pv 16) (pa_cons (pe_bltn (v := .ty "int") (by rfl) T.f_int (by decide +kernel) rfl) pa_nil))))) (pw_or1 (pt_val (pe_callB call_isi (by rfl) T.f_isinstance (by decide +kernel) (pa_cons (pv 16) (pa_cons (pe_bltn (v := .ty "bool") (by rfl) T.f_bool (by decide +kernel) rfl) pa_nil))))))) (pss_one (ps_ret pe_bl)) pss_nil)
      (pss_one (ps_if (pt_cmpR op_ne (pv 16) (pe_call G_filled (hr.mono (by omega)) (by rfl) T.g_filled k_filled b_filled .nil pass0 (pa_cons (pv 10) (pa_cons (pv 12) (pa_cons (pv 15) (pa_cons (pe_ix ix_list (pe_call G_law_mapped (hr.mono (by omega)) (by rfl) T.g_law_mapped k_law_mapped b_law_mapped .nil pass0 (pa_cons (pv 1) (pa_cons (pv 14) pa_nil))) (pv 8) (fun _ _ => rfl)) pa_nil))))) (nomark _)) (pss_one (ps_ret pe_bl)) pss_nil))))))
      (pss_one (ps_ret pe_bl)))))))))))))), ?_⟩
  have en : sAt ns 8 / 3 % 4 * 2 ^ (sAt ns 9 % 7).toNat = (n : Int) := by
    rw [hn]
    show _ = (((sAt ns 8 / 3 % 4).toNat * 2 ^ (sAt ns 9 % 7).toNat : Nat) : Int)
    rw [Int.natCast_mul, Int.natCast_pow, Int.toNat_of_nonneg (by omega)]
    rfl
  refine ⟨_, rfl, a, ns, 8, rfl, hS, _, _, rfl, rfl, ⟨by decide, by decide⟩, _, _, rfl, rfl, (by show (0 : Int) < 4; decide), _, rfl, a, ns, 9, rfl, hS, _, _, rfl, rfl, (by show (0 : Int) < 7; decide), _, _, rfl, rfl, ⟨by omega, by omega, by omega⟩, ?_⟩
  refine ⟨_, rfl, a, ns, 10, rfl, hS, _, _, rfl, rfl, (by show (0 : Int) < 30; decide), _, _, rfl, rfl, ?_⟩
  refine ⟨_, rfl, a, ns, 11, rfl, hS, _, _, rfl, rfl, (by show (0 : Int) < 30; decide), _, _, rfl, rfl, ?_⟩
  refine ⟨_, rfl, a, ns, 13, rfl, hS, _, _, rfl, rfl, (by show (0 : Int) < 40; decide), _, _, rfl, rfl, ?_⟩
  refine ⟨_, rfl, a, ns, 14, rfl, hS, _, _, rfl, rfl, (by show (0 : Int) < 40; decide), _, _, rfl, rfl, ?_⟩
  refine ⟨_, rfl, a, ns, 15, rfl, hS, _, _, rfl, rfl, (by show (0 : Int) < 7; decide), _, _, rfl, rfl, ?_⟩
  have e1 : sAt ns 10 % 30 - 20 = b.1 := by rw [hb]; rfl
  have e2 : sAt ns 11 % 30 - 20 = b.2.1 := by rw [hb]; rfl
  have e3 : 1 + sAt ns 13 % 40 = b.2.2.1 := by rw [hb]; rfl
  have e4 : 1 + sAt ns 14 % 40 = b.2.2.2 := by rw [hb]; rfl
  have e5 : 1 + sAt ns 15 % 7 = (st : Int) := by rw [hst]; show _ = (((1 + sAt ns 15 % 7).toNat : Nat) : Int); omega
  refine ⟨fun σ' H1 => ∃ St : Addr, σ' = [some (.ref a), some (.ref ma), some (.int (y : Nat)), some (.int (n : Nat)), some (.int b.1), some (.int b.2.1), some (.int b.2.2.1), some (.int b.2.2.2), some (.int (st : Nat)), some (.ref St), none, none, none, none, none, none, none] ∧ Same H H1 ∧ H1 St = some (.tup [.int (offX y), .int (offY y)]), ?_, ?_⟩
  · refine ⟨_, rfl, y, rfl, hy, fun St H1 s1 hSt => ⟨St, ?_, s1, hSt⟩⟩
    rw [← en, ← e1, ← e2, ← e3, ← e4, ← e5]
    rfl
  rintro σ1 H1 ⟨St, rfl, s1, hSt⟩
  refine fun g dx hg hdx ngx => ?_
  have s2 : Same H1 (upd (upd H1 dx (.own g)) g (.ins (CG K) dx [])) := fun x o e => by
    rw [upd_ne (ne_of_none e hg), upd_ne (ne_of_none e hdx)]
    exact e
  have S1 : Bd S 16777216 := by rw [hSd]; exact bS_bd hw.2 hh.2
  have S2 : ∀ j s, j ≤ 48 → s ≤ 7 → S (solid j s) := by rw [hSd]; exact SL.solid
  refine ⟨g, dx, rfl, upd_same, S1, S2, fun O2 H2 ⟨t2, G2⟩ k2 => ⟨rfl, ?_⟩⟩
  have s02 : Same H1 O2 := fun x o e => k2 _ _ (s2 _ _ e) (ne_of_none e hg)
  have hma2 := G2.sub (s02 _ _ (s1 _ _ hma))
  obtain ⟨n1, n2, n3, n4, n5, n6⟩ := own_ne G2
  obtain ⟨h1, h2, h3, h4⟩ := own_lists G2
  refine ⟨t2.lM, .lst [], h1, trivial, fun od1 => ⟨t2.lL, .lst [], (upd_ne n1.symm).trans h2, trivial, fun od2 => ⟨t2.lV, .lst [], (upd_ne n4.symm).trans ((upd_ne n2.symm).trans h3), trivial, fun od3 => ⟨t2.lS, .lst [], (upd_ne n6.symm).trans ((upd_ne n5.symm).trans ((upd_ne n3.symm).trans h4)), trivial, fun od4 => ?_⟩⟩⟩⟩
  have hmaL : lkd H2 t2 od1 od2 od3 od4 ma = some (.lst (fl8 m)) := by
    have nn : ∀ {x : Addr}, H2 x = some (.lst []) → ma ≠ x := fun hx z => by
      rw [z, hx] at hma2
      cases hma2
    unfold lkd
    rw [upd_ne (nn h4), upd_ne (nn h3), upd_ne (nn h2), upd_ne (nn h1)]
    exact hma2
  refine ⟨_, rfl, _, rfl, _, rfl, ma, m, y, rfl, hmaL, hm, hy, fun H3 s3 => ?_⟩
  refine ⟨gtext m y, gparts m y, gcls m y, rfl, gtext_ne hy hm, gtext_len hy hm, gparts_split hy hm, gcls_len m y, ?_, fun i p c h1 h2 => gpartOk hy hm h1 h2, gcls_zero m0 hy, fun r H4 s4 hr4 => ?_⟩
  · have := gparts_len m y
    rw [← gcls_len]
    omega
  refine fun jp dj hjp hdj ngj => ?_
  refine ⟨jp, dj, g, r, rfl, upd_same, fun d H5 hd0 hd hj k5 => ⟨rfl, ?_⟩⟩
  have s45 : Same H4 H5 := fun x o e => k5 _ _ (by rw [upd_ne (ne_of_none e hjp), upd_ne (ne_of_none e hdj)]; exact e) (ne_of_none e hjp)
  have s25 : Same (lkd H2 t2 od1 od2 od3 od4) H5 := s3.trans (s4.trans s45)
  obtain ⟨⟨f4, f3, f2, f1⟩, O6, G6, sO6, xl6, nw6⟩ := own_locked G2 s25
  refine ⟨f4, f3, f2, f1, ?_⟩
  have jo6 : JoAt K O6 jp g r d := ⟨dj, xl6 _ _ hj (.inr ⟨_, _, _, rfl⟩)⟩
  have ru6 : RuleIs K O6 r (gcls m y) := (hr4.same s45).l xl6
  have hd4 : H4 d = none := by
    refine Classical.byContradiction fun z => ?_
    cases q4 : H4 d with
    | none => exact z q4
    | some o =>
      have : (upd (upd H4 dj (.own jp)) jp (.ins (CJ K) dj [])) d = some o := by rw [upd_ne (ne_of_none q4 hjp), upd_ne (ne_of_none q4 hdj)]; exact q4
      rw [hd0] at this
      cases this
  have hd2 : H2 d = none := lkd_none hd4 (s3.trans s4)
  have hdH : H d = none := by
    cases q0 : H d with
    | none => rfl
    | some o => rw [G2.same _ _ (s02 _ _ (s1 _ _ q0))] at hd2; cases hd2
  have od6 : O6 d = some (.dT []) := nw6 _ _ hd2 hd
  have S3 : Bd R 16777215 := by rw [hRd]; exact bR_bd hw.2 hh.2
  have J6 : JS K S R gl jp g r d (gcls m y) ⟨[], []⟩ O6 (ulk H5 t2) := ⟨jo6, ru6, by rw [hgl]; exact gcls_gl m0 hm hy, ⟨t2, G6⟩, JV.new S3 od6⟩
  obtain ⟨dx6, hg6⟩ := G6.ob
  refine ⟨_, rfl, g, dx6, _, rfl, G6.sub hg6, by rfl, g, _, O6, 1, 0, rfl, ⟨t2, G6⟩, by decide, by decide, fun i0 w7 O7 H7 G7 x7 m7 hi0 => ?_⟩
  have J7 := J6.s G7 x7 m7
  refine ⟨fun σ' H' => ∃ (i k : Nat) (w1 : GWd) (O1 : Hp), σ' = [some (.ref a), some (.ref ma), some (.int (y : Nat)), some (.int (n : Nat)), some (.int b.1), some (.int b.2.1), some (.int b.2.2.1), some (.int b.2.2.2), some (.int (st : Nat)), some (.ref St), some (.ref g), some (.ref jp), some (.int (i0 : Nat)), some (.int (i : Nat)), none, none, none] ∧
      JS K S R gl jp g r d (gcls m y) w1 O1 H' ∧ w1.cs[i0]? = some (solid 1 0) ∧ w1.cs[i]? = some (cw (ind b st) k) ∧ isF (ind b st) k ∧ H d = none ∧ LamX.ExtN H O1 ∧ TabsN (tabF K) O1 ∧ O1 St = some (.tup [.int (offX y), .int (offY y)]), ?_, ?_⟩
  · refine ⟨_, rfl, _, rfl, _, rfl, _, rfl, _, rfl, _, rfl, (by show 4 ≤ sizeLine; decide), fun bp hbp => ?_⟩
    obtain ⟨t7, G7'⟩ := G7
    have G8 := G7'.new hbp (.tup (bxT b))
    have m8 : Same O7 (upd O7 bp (.tup (bxT b))) := same_new (G7'.fresh hbp) _
    have T8 : TabsN (tabF K) (upd O7 bp (.tup (bxT b))) := ((((hT.ext s1).ext s02).ext sO6).ext m7).ext m8
    have e8 : LamX.ExtN H (upd O7 bp (.tup (bxT b))) := LamX.ExtN.of ((((s1.trans s02).trans sO6).trans m7).trans m8)
    refine ⟨_, rfl, g, w7, _, i0, bp, b, st, rfl, ⟨t7, G8⟩, hi0, upd_same, hw, hh, ?_, hs7, ?_, T8, fun k hk i w9 O9 H9 G9 x9 e9 T9 hi => ?_⟩
    · refine lies_lim ?_ ?_
      · rw [hb]; show -1000 ≤ sAt ns 10 % 30 - 20 ∧ sAt ns 10 % 30 - 20 + (1 + sAt ns 13 % 40) ≤ 1000; omega
      · rw [hb]; show -1000 ≤ sAt ns 11 % 30 - 20 ∧ sAt ns 11 % 30 - 20 + (1 + sAt ns 14 % 40) ≤ 1000; omega
    · rw [hSd]; exact bS_0
    · exact ⟨i, k, w9, O9, rfl, (J7.s ⟨t7, G8⟩ (ExC.refl _) m8).n G9 x9 e9, x9 _ _ hi0, hi, hk, hdH, e8.trans e9, T9, e9 _ _ (m8 _ _ (m7 _ _ (sO6 _ _ (s02 _ _ hSt)))) fun ps z => by cases z⟩
  rintro σ9 H9 ⟨i, k, w9, O9, rfl, J9, hi0, hi, hk, hdH, e9, T9, hSt9⟩
  refine ⟨_, rfl, _, rfl, _, _, rfl, rfl, (by show 2 ≤ sizeLine; decide), fun Lp hLp => ?_⟩
  refine ⟨Lp, rfl, ⟨_, SqL.of upd_same⟩, ?_⟩
  have hma9 := e9 _ _ hma fun ps z => by cases z
  obtain ⟨t9, G9⟩ := J9.gv
  have nLp := G9.fresh hLp
  have m10 : Same O9 (upd O9 Lp (.lst [.int (n : Nat), .int ((n : Nat) + 1)])) := same_new nLp _
  have J10 := J9.s ⟨t9, G9.new hLp (.lst [.int (n : Nat), .int ((n : Nat) + 1)])⟩ (ExC.refl _) m10
  refine for_it (walk_list (K := K) (a := Lp) (xs := [.int (n : Nat), .int ((n : Nat) + 1)])) (fun j σ' H' => ∃ (v14 v15 v16 : Option V) (w' : GWd) (O' : Hp), σ' = [some (.ref a), some (.ref ma), some (.int (y : Nat)), some (.int (n : Nat)), some (.int b.1), some (.int b.2.1), some (.int b.2.2.1), some (.int b.2.2.2), some (.int (st : Nat)), some (.ref St), some (.ref g), some (.ref jp), some (.int (i0 : Nat)), some (.int (i : Nat)), v14, v15, v16] ∧
      JS K S R gl jp g r d (gcls m y) w' O' H' ∧ w'.cs[i0]? = some (solid 1 0) ∧ w'.cs[i]? = some (cw (ind b st) k) ∧ LamX.ExtN H O' ∧ TabsN (tabF K) O' ∧ O' St = some (.tup [.int (offX y), .int (offY y)]) ∧ O' Lp = some (.lst [.int (n : Nat), .int ((n : Nat) + 1)]) ∧ O' ma = some (.lst (fl8 m)))
    ⟨none, none, none, w9, _, rfl, J10, hi0, hi, e9.trans (LamX.ExtN.of m10), T9.ext m10, m10 _ _ hSt9, upd_same, m10 _ _ hma9⟩ (fun _ _ _ _ ⟨_, _, _, _, _, _, J, _, _, _, _, _, h, _⟩ => SqL.of (J.out h)) ?_ ?_
  · rintro j x σ1 H1 H1' hj ⟨v14, v15, v16, w', O', rfl, J, h0, hi', e', T', hS', hL', hm'⟩ ⟨rfl, hx⟩
    obtain ⟨c, hc, rfl⟩ : ∃ c : Nat, (c = n ∨ c = n + 1) ∧ x = .int (c : Nat) := by
      match j, hj, hx with
      | 0, _, hx => exact ⟨n, .inl rfl, (Option.some.inj hx).symm⟩
      | 1, _, hx => exact ⟨n + 1, .inr rfl, (Option.some.inj hx).symm⟩
      | j + 2, hj, _ => exact absurd hj (by show ¬ j + 2 < 2; omega)
    have c256 : c < 256 := by omega
    obtain ⟨t', G'⟩ := J.gv
    have ho := offs9 y hy
    have hSH := G'.sub hS'
    refine ⟨_, rfl, _, rfl, _, rfl, _, _, _, _, rfl, rfl, SqT.of hSH, rfl, _, _, rfl, rfl, .inr ⟨by omega, by omega⟩, _, _, rfl, rfl, ?_⟩
    refine ⟨_, rfl, _, rfl, _, rfl, _, _, _, _, rfl, rfl, SqT.of hSH, rfl, _, _, rfl, rfl, .inr ⟨by omega, by omega⟩, _, _, rfl, rfl, ?_⟩
    refine ⟨_, rfl, _, rfl, (by show 4 ≤ sizeLine; decide), fun bq hbq => ?_⟩
    have esh : bxT (shift gl c b) = [.int (b.1 - (c : Nat) * offX y), .int (b.2.1 - (c : Nat) * offY y), .int b.2.2.1, .int b.2.2.2] := by rw [hgl]; rfl
    have G2' := G'.new hbq (.tup [.int (b.1 - (c : Nat) * offX y), .int (b.2.1 - (c : Nat) * offY y), .int b.2.2.1, .int b.2.2.2])
    have mq : Same O' (upd O' bq (.tup [.int (b.1 - (c : Nat) * offX y), .int (b.2.1 - (c : Nat) * offY y), .int b.2.2.1, .int b.2.2.2])) := same_new (G'.fresh hbq) _
    have J2 := J.s ⟨t', G2'⟩ (ExC.refl _) mq
    have ez : ev gl 0 (ind b st) = ind b st := ev_zero _ _
    refine ⟨_, rfl, _, rfl, _, rfl, jp, g, r, d, gcls m y, boxP gl b st hw.1 hh.1 hs7, 0, c, 1000, w', _, i, k, rfl, J2, ?_, ?_, ?_, ?_, by decide, ?_, fun k2 hk2 i2 w2 O2 H2 J3 x2 sx2 hi2 => ?_⟩
    · rw [hSd, hRd]; exact bFam hc c256
    · show w'.cs[i]? = some (cw (ev gl 0 (ind b st)) k)
      rw [ez]; exact hi'
    · show isF (ev gl 0 (ind b st)) k
      rw [ez]; exact hk
    · show bnd (ev gl 0 (ind b st)) 1000
      rw [ez]
      exact ind_bnd hX hY
    · show (1000 : Int) + (c : Nat) ≤ 1099511627776
      omega
    rw [Nat.zero_add] at hk2 hi2
    refine ⟨_, rfl, .int _, .ty "int", .type "int", .type "int", true, rfl, .ty _, .base (.int _), kit_ty (by decide +kernel), _, rfl, iteF ?_⟩
    refine ⟨_, rfl, .int _, .ty "bool", .type "int", .type "bool", false, rfl, .ty _, .base (.int _), kit_ty (by decide +kernel), _, rfl, iteF ?_⟩
    obtain ⟨t3, G3⟩ := J3.gv
    obtain ⟨kv, hkv⟩ := J2.jv.dict
    have nd : ∀ {z : Addr} {o : HO}, (upd O' bq (.tup [.int (b.1 - (c : Nat) * offX y), .int (b.2.1 - (c : Nat) * offY y), .int b.2.2.1, .int b.2.2.2])) z = some o → (∀ kv, o ≠ .dT kv) → O2 z = some o := fun {z o} hz n => sx2 _ _ (fun e => n kv (by rw [e, hkv] at hz; exact (Option.some.inj hz).symm)) hz
    have hma3 := nd (mq _ _ hm') (fun kv z => by cases z)
    have T2 : TabsN (tabF K) O2 := tabs_x (T'.ext mq) hkv sx2
    have e2' : LamX.ExtN H O2 := fun z o hz n => sx2 _ _ (fun e => by rw [e, hdH] at hz; cases hz) (mq _ _ (e' _ _ hz n))
    refine ⟨_, rfl, _, rfl, _, rfl, _, rfl, _, rfl, _, rfl, ma, m, c, rfl, G3.sub hma3, hm, fun D H3 s3 hD => ?_⟩
    obtain ⟨O3, G3', sO3, nw3⟩ := G3.after s3
    have hst8 : st < 8 := by omega
    have egm : gl.m = m := by rw [hgl]; rfl
    have Jf3 := J3.s ⟨t3, G3'⟩ (ExC.refl _) sO3
    refine ⟨_, rfl, D, _, _, _, rfl, rfl, SqL.of hD, atI_nat (fl8_at hst8), g, w2, O3, i0, bq, shift gl c b, it m c st, rfl, ⟨t3, G3'⟩, x2 _ _ h0, ?_, hw, hh, ?_, ?_, ?_, T2.ext sO3, fun k3 hk3 i3 w4 O4 H4 G4 x4 e4 T4 hi3 => ?_⟩
    · rw [esh]
      exact sO3 _ _ (nd upd_same (fun kv z => by cases z))
    · have z1 := mul_off (c := c) gl.hx
      have z2 := mul_off (c := c) gl.hy
      refine lies_lim ?_ ?_
      · show -1000 ≤ b.1 - (c : Int) * gl.ox ∧ b.1 - (c : Int) * gl.ox + b.2.2.1 ≤ 1000
        omega
      · show -1000 ≤ b.2.1 - (c : Int) * gl.oy ∧ b.2.1 - (c : Int) * gl.oy + b.2.2.2 ≤ 1000
        omega
    · have := it_le8 hm c st hst8
      omega
    · have := bS_at (g := gl) (b := b) (st := st) (hw := hw.1) (hh := hh.1) (hs := hs7) hc c256
      rw [ev_ind, egm] at this
      rw [hSd]
      exact this
    · have hi2' : w2.cs[i2]? = some (cw (ev gl c (ind b st)) k2) := hi2
      have hk2' : isF (ev gl c (ind b st)) k2 := hk2
      rw [ev_ind, egm] at hi2' hk2'
      have ek := isF_unique hk2' hk3
      subst ek
      obtain ⟨t4, G4'⟩ := G4
      have ei := ids_eq G4'.cnd (x4 _ _ hi2') hi3
      subst ei
      refine ⟨rfl, _, rfl, ?_⟩
      rw [decide_eq_true (rfl : V.int (i2 : Nat) = V.int (i2 : Nat))]
      refine iteF ⟨_, _, _, w4, O4, rfl, Jf3.n ⟨t4, G4'⟩ x4 e4, x4 _ _ (x2 _ _ h0), x4 _ _ (x2 _ _ hi'), e2'.trans ((LamX.ExtN.of sO3).trans e4), T4, e4 _ _ (sO3 _ _ (nd (mq _ _ hS') (fun kv z => by cases z))) (fun ps z => by cases z), e4 _ _ (sO3 _ _ (nd (mq _ _ hL') (fun kv z => by cases z))) (fun ps z => by cases z), e4 _ _ (sO3 _ _ hma3) (fun ps z => by cases z)⟩
  · rintro σ1 H1 ⟨v14, v15, v16, w', O', rfl, J, h0, hi', e', T', hS', hL', hm'⟩
    obtain ⟨t', G'⟩ := J.gv
    exact q _ (e'.trans (LamX.ExtN.of G'.same)) (T'.ext G'.same)
end
end Jf
/-! JfLw -/
set_option autoImplicit true
/-! Words for the law. -/
namespace Jf
open PySem PySem.Spec PyProof.Rows L2 NdefX
theorem mOf_0 (ns : List Int) : mOf ns 0 = 0 := rfl
theorem mOf_8 (ns : List Int) (s : Nat) : mOf ns s < 8 := by
  unfold mOf
  split <;> omega
def lwNb (ns : List Int) : Nat := if sAt ns 8 % 3 = 1 then (sAt ns 9 % 38).toNat else (sAt ns 9 % 9).toNat
def lwM0 (ns : List Int) : Int := 1 + sAt ns 12 % 3 + (if (if ((ns.length : Nat) : Int) - 13 < 16 then ((ns.length : Nat) : Int) - 13 else 16) > 0 then (if ((ns.length : Nat) : Int) - 13 < 16 then ((ns.length : Nat) : Int) - 13 else 16) else 0)
def lwM (ns : List Int) : Nat := (if ((lwNb ns : Nat) : Int) > 12 then (if 4 < lwM0 ns then 4 else lwM0 ns) else lwM0 ns).toNat
theorem lwM0_le (ns : List Int) : 1 ≤ lwM0 ns ∧ lwM0 ns ≤ 19 := by
  unfold lwM0
  omega
theorem lwM_le (ns : List Int) : lwM ns ≤ 19 := by
  have := lwM0_le ns
  unfold lwM
  omega
theorem lwNb_le (ns : List Int) : lwNb ns ≤ 37 := by
  unfold lwNb
  split <;> omega
def lsOf (L : List C3) : List C3 := ((L.map fun c => (((0 : Nat), c) : SC)).mergeSort leC).map fun b => b.2
theorem lsOf_listed {L : List C3} (nd : ndK L) (hz : ∀ c ∈ L, c.2.2 ≠ 0) : Listed (plOf L) (lsOf L) := by
  have e : (L.map fun c => (((0 : Nat), c) : SC)).map (fun b => b.2) = L := by rw [List.map_map]; exact List.map_id' L
  refine sorted_listed (by rw [e]; exact ndK_nd nd) fun u v s => ?_
  rw [e]
  exact plOf_iff nd hz
theorem lsOf_len (L : List C3) : (lsOf L).length = L.length := by
  unfold lsOf
  rw [List.length_map, List.length_mergeSort, List.length_map]
theorem baseOf_le (c : Int) : -274877906944 ≤ baseOf c ∧ baseOf c < 274877906944 := by
  unfold baseOf
  split <;> omega
theorem nodup_le {α : Type} [DecidableEq α] : ∀ (l L : List α), l.Nodup → (∀ x ∈ l, x ∈ L) → l.length ≤ L.length
  | [], _, _, _ => Nat.zero_le _
  | a :: r, L, nd, h => by
    have ha : a ∈ L := h a (List.mem_cons_self ..)
    have nd' := List.nodup_cons.mp nd
    have := nodup_le r (L.erase a) nd'.2 fun x hx => (List.mem_erase_of_ne (fun e : x = a => nd'.1 (by rw [← e]; exact hx))).mpr (h x (List.mem_cons_of_mem _ hx))
    rw [List.length_erase_of_mem ha] at this
    have pos : 0 < L.length := List.length_pos_of_mem ha
    rw [List.length_cons]
    omega
theorem listed_len {L Ls : List C3} (nd : ndK L) (hz : ∀ c ∈ L, c.2.2 ≠ 0) (h : Listed (plOf L) Ls) : Ls.length ≤ L.length :=
  nodup_le _ _ h.nd fun ⟨u, v, s⟩ hc => (plOf_iff nd hz).mpr ((h.mem u v s).mp hc)
theorem lives_pl {L : List C3} (nd : ndK L) (hz : ∀ c ∈ L, c.2.2 ≠ 0) (k : Nat) : lives (cw (plOf L) k) ≤ L.length := by
  rw [← cellsQ_length (cw (plOf L) k) k (-(p2 (k - 1))) (-(p2 (k - 1)))]
  refine nodup_le _ _ cellsQ_nodup fun ⟨u, v, s⟩ h => ?_
  obtain ⟨_, _, _, _, e, z⟩ := cellsQ_mem.mp h
  exact (plOf_iff nd hz).mpr ⟨e, z⟩
theorem pl_bnd {L : List C3} {X Y : Int} (mb : MemB L X Y) (hX : -274877906944 ≤ X ∧ X < 274877906944) (hY : -274877906944 ≤ Y ∧ Y < 274877906944) : bnd (plOf L) 274877906952 := fun x y e => by
  have := plOf_ins mb e
  omega
theorem nOf_le {k b : Nat} (hk : k < 4) (hb : b ≤ 37) : k * 2 ^ b ≤ 412316860416 := by
  have h1 : 2 ^ b ≤ 2 ^ 37 := Nat.pow_le_pow_right (by omega) hb
  have h2 := Nat.mul_le_mul (show k ≤ 3 by omega) h1
  exact h2
section
variable {K : PySem.W.Frag} {S : Q → Prop} {R : Q × Nat → Prop} {gl : Gl} {jp g r d : Addr} {cs : List Cl} {w w' : GWd} {O O' H H' : Hp}
/-- what stood before the grove was made, stands -/
theorem same_d {H7 : Hp} (h : Same H7 O) (hd : H7 d = none) (e : SameX d O O') : Same H7 O' := fun b o q => e b o (fun z => by rw [z, hd] at q; cases q) (h b o q)
theorem CellsAt.nw {H1 H3 O3 : Hp} {p : Addr} {L : List C3} (h : CellsAt H3 p L) (hp : H1 p = none) (nw : ∀ a o, H1 a = none → H3 a = some o → O3 a = some o) (out : ∀ a l, H3 a = some (.tup l) → O3 a = some (.tup l)) : CellsAt O3 p L := by
  obtain ⟨ps, h1, h2, h3⟩ := h
  exact ⟨ps, nw _ _ hp h1, h2, fun i p x y s a b => out _ _ (h3 i p x y s a b)⟩
theorem GVs.tupO {t : GS} (G : GVs K S g w t O H) {a : Addr} {l : List V} (h : H a = some (.tup l)) : O a = some (.tup l) := by
  by_cases m : a ∈ ownL w t
  · rcases G.busy m with ⟨l, q⟩ | ⟨l, q⟩ | ⟨l, q⟩ <;> rw [q] at h <;> cases h
  · rw [G.out a m]; exact h
end
/-- the plane of the cells, some steps on -/
theorem listed_ev {gl : Gl} {y n : Nat} {L Ls L1 L2 : List C3} (hx : gl.ox = offX y) (hy : gl.oy = offY y) (nd : ndK L) (e : plOf Ls = plOf L) (h1 : Listed (ev gl n (plOf Ls)) L1) (h2 : Listed (plOf (glL gl.m y n L)) L2) : L1 = L2 ∧ L1.length ≤ L.length := by
  rw [glL_ev hx hy nd, ← e] at h2
  have q := h1.unique h2
  refine ⟨q, ?_⟩
  rw [e, ← glL_ev hx hy nd] at h1
  exact Nat.le_trans (listed_len (glL_nd nd) glL_nz h1) glL_len
theorem lives_ev {gl : Gl} {y n : Nat} {L Ls : List C3} (hx : gl.ox = offX y) (hy : gl.oy = offY y) (nd : ndK L) (e : plOf Ls = plOf L) (k : Nat) : lives (cw (ev gl n (plOf Ls)) k) ≤ L.length := by
  rw [e, ← glL_ev hx hy nd]
  exact Nat.le_trans (lives_pl (glL_nd nd) glL_nz k) glL_len
end Jf
/-! JfLc -/
set_option autoImplicit true
/-! The law. -/
namespace Jf
open PySem PySem.Spec PyProof.Rows L2 NdefX
section
variable {P : Program} {w : World} {K : PySem.W.Frag} {mg : Str → Option Value} {base : Heap}
def spLaw (K : PySem.W.Frag) : Sp := fun vs H Qk _ => ∃ (a : Addr) (ns : List Int), vs = [.ref a] ∧ SqL K H a (ns.map V.int) ∧ ns.length ≤ 63 ∧ TabsN (tabF K) H ∧ ∀ H', Qk (.bl true) H'
theorem sc_law : FnScope [("_law_script" : Str), ("_law_made" : Str), ("_law_way" : Str), ("_law_n" : Str), ("_law_many" : Str), ("_law_states" : Str), ("_law_grove" : Str), ("_law_jumps" : Str), ("_law_field" : Str), ("_law_found" : Str), ("_law_then" : Str)] ["_law_script"] (defScope s_law) := ⟨rfl, rfl, rfl, by decide +kernel, rfl, by decide +kernel, by decide +kernel⟩
theorem law_body (T : Txt K mg) (hTB : LamX.TabB base mg (He.codeOf K ("filled", none)) (He.cT K ("filled", none)).2) (cdv : Value) (A : Around) (outer : List Env) (s : Shared) (H : Hp) (vs : List V) (Q : VK) (E : XK)
    (hr : Room 61 (A.deeper (envOfC "law" (defScope s_law) s.heap.objs.size (He.fAd K ("law", none)) cdv))) (h : spLaw K vs H Q E) :
    ∃ t, PSs (cxOf CX0 P w K mg base [("_law_script" : Str), ("_law_made" : Str), ("_law_way" : Str), ("_law_n" : Str), ("_law_many" : Str), ("_law_states" : Str), ("_law_grove" : Str), ("_law_jumps" : Str), ("_law_field" : Str), ("_law_found" : Str), ("_law_then" : Str)] "law" (defScope s_law) (He.fAd K ("law", none)) cdv A outer s H E).nox (defBody s_law) t ∧ t { nx := fun _ H' => Q .non H', rt := Q } (start [("_law_script" : Str), ("_law_made" : Str), ("_law_way" : Str), ("_law_n" : Str), ("_law_many" : Str), ("_law_states" : Str), ("_law_grove" : Str), ("_law_jumps" : Str), ("_law_field" : Str), ("_law_found" : Str), ("_law_then" : Str)] vs) H := by
  obtain ⟨fd_law_at, G_law_at, b_law_at, k_law_at⟩ := ok_law_at (P := P) (w := w) (base := base) T
  obtain ⟨fd_law_map_by, G_law_map_by, b_law_map_by, k_law_map_by⟩ := ok_law_map_by (P := P) (w := w) (base := base) T
  obtain ⟨fd_read_rule, G_read_rule, b_read_rule, k_read_rule⟩ := ok_read_rule (P := P) (w := w) (base := base) T
  obtain ⟨fd_law_glide_text, G_law_glide_text, b_law_glide_text, k_law_glide_text⟩ := ok_law_glide_text (P := P) (w := w) (base := base) T
  obtain ⟨fd_law_heap, G_law_heap, b_law_heap, k_law_heap⟩ := ok_law_heap (P := P) (w := w) (base := base) T
  obtain ⟨fd_law_base, G_law_base, b_law_base, k_law_base⟩ := ok_law_base (P := P) (w := w) (base := base) T
  obtain ⟨fd_law_listed, G_law_listed, b_law_listed, k_law_listed⟩ := ok_law_listed (P := P) (w := w) (base := base) T
  obtain ⟨fd_law_glided, G_law_glided, b_law_glided, k_law_glided⟩ := ok_law_glided (P := P) (w := w) (base := base) T
  obtain ⟨fd_law_right, G_law_right, b_law_right, k_law_right⟩ := ok_law_right (P := P) (w := w) (base := base) T
  obtain ⟨fd_Jumps_init, G_Jumps_init, b_Jumps_init, k_Jumps_init⟩ := ok_Jumps_init (P := P) (w := w) (base := base) T
  obtain ⟨fd_law_box_right, G_law_box_right, b_law_box_right, k_law_box_right⟩ := ok_law_box_right (P := P) (w := w) (base := base) T hTB
  obtain ⟨a, ns, rfl, hS, h63, hT, q⟩ := h
  obtain ⟨m, em⟩ : ∃ m, m = mOf ns := ⟨_, rfl⟩
  have m0 : m 0 = 0 := by rw [em]; rfl
  have hm : ∀ s, s < 8 → m s < 8 := by rw [em]; exact fun s _ => mOf_8 ns s
  obtain ⟨y, ey⟩ : ∃ y, y = (sAt ns 7 % 9).toNat := ⟨_, rfl⟩
  have hy : y < 9 := by rw [ey]; omega
  obtain ⟨gl, hgl⟩ : ∃ gl, gl = glOf m y m0 hm hy := ⟨_, rfl⟩
  obtain ⟨X, eX⟩ : ∃ X, X = baseOf (sAt ns 10) := ⟨_, rfl⟩
  obtain ⟨Y, eY⟩ : ∃ Y, Y = baseOf (sAt ns 11) := ⟨_, rfl⟩
  obtain ⟨L, eL⟩ : ∃ L, L = heapL ns 13 X Y (lwM ns) := ⟨_, rfl⟩
  have ndL : ndK L := by rw [eL]; exact heapL_nd _ _ _ _ _
  have memL := heapL_mem ns 13 X Y (lwM ns)
  rw [← eL] at memL
  have lenL : L.length ≤ 19 := by rw [eL]; exact Nat.le_trans (heapL_len _ _ _ _ _) (lwM_le ns)
  have hzL : ∀ c ∈ L, c.2.2 ≠ 0 := fun c hc => by have := (memL c hc).2.2; omega
  have lst := lsOf_listed ndL hzL
  have pl := lst.pl
  obtain ⟨Ls, eLs⟩ : ∃ Ls, Ls = lsOf L := ⟨_, rfl⟩
  rw [← eLs] at lst pl
  have lenLs : Ls.length ≤ 19 := by rw [eLs, lsOf_len]; exact lenL
  have mb : MemB Ls X Y := fun c hc => by
    obtain ⟨u, v, s⟩ := c
    have := memL _ ((plOf_iff ndL hzL).mpr ((lst.mem u v s).mp hc))
    exact ⟨this.1, this.2.1, by omega⟩
  obtain ⟨a6, ea6⟩ : ∃ a6, a6 = (sAt ns 12 / 6 % 7).toNat := ⟨_, rfl⟩
  obtain ⟨kk, ekk⟩ : ∃ kk, kk = (sAt ns 8 / 3 % 4).toNat := ⟨_, rfl⟩
  obtain ⟨S, hSd⟩ : ∃ S, S = mS gl Ls X Y lst.ndK mb a6 (lwNb ns) kk := ⟨_, rfl⟩
  obtain ⟨R, hRd⟩ : ∃ R, R = mR gl Ls X Y lst.ndK mb a6 (lwNb ns) kk := ⟨_, rfl⟩
  obtain ⟨fd_Grove_init, G_Grove_init, b_Grove_init, k_Grove_init⟩ := ok_Grove_init (P := P) (w := w) (base := base) (S := S) T
  obtain ⟨fd_field_of, G_field_of, b_field_of, k_field_of⟩ := ok_field_of (P := P) (w := w) (base := base) (S := S) T
  obtain ⟨fd_cells_of, G_cells_of, b_cells_of, k_cells_of⟩ := ok_cells_of (P := P) (w := w) (base := base) (S := S) T
  obtain ⟨fd_jump, G_jump, b_jump, k_jump⟩ := ok_jump (P := P) (w := w) (base := base) (S := S) (R := R) T
  refine ⟨_, (pss_cons (ps_set (i := 1) sc_law.nd rfl (Or.inl rfl) (pe_call G_law_map_by (hr.mono (by omega)) (by rfl) T.g_law_map_by k_law_map_by b_law_map_by .nil pass0 (pa_cons (pv 0) (pa_cons pe_int pa_nil))))
      (C8.pss_cut (ps_set (i := 2) sc_law.nd rfl (Or.inl rfl) (pe_op op_mod (pe_call G_law_at (hr.mono (by omega)) (by rfl) T.g_law_at k_law_at b_law_at .nil pass0 (pa_cons (pv 0) (pa_cons pe_int pa_nil))) pe_int))
      (C8.pss_cut (ps_if (PW.pt (pw_and (pt_cmpR op_eq (pe_op op_mod (pe_op op_add (pe_call G_law_at (hr.mono (by omega)) (by rfl) T.g_law_at k_law_at b_law_at .nil pass0 (pa_cons (pv 0) (pa_cons pe_int pa_nil))) (pe_call G_law_at (hr.mono (by omega)) (by rfl) T.g_law_at k_law_at b_law_at .nil pass0 (pa_cons (pv 0) (pa_cons pe_int pa_nil)))) pe_int) pe_int (nomark _)) (pw_and1 (pt_not (pt_val (pe_call G_law_box_right (hr.mono (by omega)) (by rfl) T.g_law_box_right k_law_box_right b_law_box_right .nil pass0 (pa_cons (pv 0) (pa_cons (pv 1) (pa_cons (pv 2) pa_nil))))))))) (pss_one (ps_ret pe_bl)) pss_nil)
      (C8.pss_cut (ps_set (i := 3) sc_law.nd rfl (Or.inl rfl) (pe_op op_mod (pe_call G_law_at (hr.mono (by omega)) (by rfl) T.g_law_at k_law_at b_law_at .nil pass0 (pa_cons (pv 0) (pa_cons pe_int pa_nil))) pe_int))
      (C8.pss_cut (ps_if (pt_cmpR op_eq (pe_op op_mod (pe_call G_law_at (hr.mono (by omega)) (by rfl) T.g_law_at k_law_at b_law_at .nil pass0 (pa_cons (pv 0) (pa_cons pe_int pa_nil))) pe_int) pe_int (nomark _)) (pss_one (ps_set (i := 3) sc_law.nd rfl (Or.inl rfl) (pe_op op_mod (pe_call G_law_at (hr.mono (by omega)) (by rfl) T.g_law_at k_law_at b_law_at .nil pass0 (pa_cons (pv 0) (pa_cons pe_int pa_nil))) pe_int))) pss_nil)
      (C8.pss_cut (ps_set (i := 4) sc_law.nd rfl (Or.inl rfl) (pe_op op_add (pe_op op_add pe_int (pe_op op_mod (pe_call G_law_at (hr.mono (by omega)) (by rfl) T.g_law_at k_law_at b_law_at .nil pass0 (pa_cons (pv 0) (pa_cons pe_int pa_nil))) pe_int)) (pe_callB (call_max2 rfl) (by rfl) T.f_max (by decide +kernel) (pa_cons pe_int (pa_cons (pe_callB (call_min2 rfl) (by rfl) T.f_min (by decide +kernel) (pa_cons pe_int (pa_cons (pe_op op_sub (pe_callB call_len_seq (by rfl) T.f_len (by decide +kernel) (pa_cons (pv 0) pa_nil)) pe_int) pa_nil))) pa_nil)))))
      (C8.pss_cut (ps_if (pt_cmpR op_gt (pv 3) pe_int (nomark _)) (pss_one (ps_set (i := 4) sc_law.nd rfl (Or.inl rfl) (pe_callB (call_min2 rfl) (by rfl) T.f_min (by decide +kernel) (pa_cons (pv 4) (pa_cons pe_int pa_nil))))) pss_nil)
      (C8.pss_cut (ps_set (i := 3) sc_law.nd rfl (Or.inl rfl) (pe_op op_shl (pe_op op_mod (pe_op op_fdiv (pe_call G_law_at (hr.mono (by omega)) (by rfl) T.g_law_at k_law_at b_law_at .nil pass0 (pa_cons (pv 0) (pa_cons pe_int pa_nil))) pe_int) pe_int) (pv 3)))
      (C8.pss_cut (ps_set (i := 5) sc_law.nd rfl (Or.inl rfl) (pe_call G_law_heap (hr.mono (by omega)) (by rfl) T.g_law_heap k_law_heap b_law_heap .nil pass0 (pa_cons (pv 0) (pa_cons pe_int (pa_cons (pv 4) (pa_cons (pe_call G_law_base (hr.mono (by omega)) (by rfl) T.g_law_base k_law_base b_law_base .nil pass0 (pa_cons (pe_call G_law_at (hr.mono (by omega)) (by rfl) T.g_law_at k_law_at b_law_at .nil pass0 (pa_cons (pv 0) (pa_cons pe_int pa_nil))) pa_nil)) (pa_cons (pe_call G_law_base (hr.mono (by omega)) (by rfl) T.g_law_base k_law_base b_law_base .nil pass0 (pa_cons (pe_call G_law_at (hr.mono (by omega)) (by rfl) T.g_law_at k_law_at b_law_at .nil pass0 (pa_cons (pv 0) (pa_cons pe_int pa_nil))) pa_nil)) pa_nil)))))))
      (pss_cons (ps_set (i := 6) sc_law.nd rfl (Or.inl rfl) (pe_make0 T.k_Grove G_Grove_init (hr.mono (by omega)) (by rfl) T.g_Grove b_Grove_init .nil pass0))
      (pss_cons (ps_lock (ps_lock (ps_lock (ps_lock (ps_set (i := 7) sc_law.nd rfl (Or.inl rfl) (pe_make T.k_Jumps G_Jumps_init (hr.mono (by omega)) (by rfl) T.g_Jumps b_Jumps_init .nil pass0 (pa_cons (pv 6) (pa_cons (pe_call G_read_rule (hr.mono (by omega)) (by rfl) T.g_read_rule k_read_rule b_read_rule .nil pass0 (pa_cons (pe_call G_law_glide_text (hr.mono (by omega)) (by rfl) T.g_law_glide_text k_law_glide_text b_law_glide_text .nil pass0 (pa_cons (pv 1) (pa_cons (pv 2) pa_nil))) pa_nil)) pa_nil))))))))
      (C8.pss_cut (ps_set (i := 8) sc_law.nd rfl (Or.inl rfl) (pe_call G_field_of (hr.mono (by omega)) (by rfl) T.g_field_of k_field_of b_field_of .nil pass0 (pa_cons (pv 6) (pa_cons (pe_call G_law_listed (hr.mono (by omega)) (by rfl) T.g_law_listed k_law_listed b_law_listed .nil pass0 (pa_cons (pv 5) pa_nil)) pa_nil))))
      (C8.pss_cut (ps_if (pt_cmpR op_eq (pe_op op_mod (pe_op op_fdiv (pe_call G_law_at (hr.mono (by omega)) (by rfl) T.g_law_at k_law_at b_law_at .nil pass0 (pa_cons (pv 0) (pa_cons pe_int pa_nil))) pe_int) pe_int) pe_int (nomark _)) (pss_one (ps_expr (pe_call G_jump (hr.mono (by omega)) (by rfl) T.g_jump k_jump b_jump .nil pass0 (pa_cons (pv 7) (pa_cons (pv 8) (pa_cons (pe_op op_mod (pe_op op_fdiv (pe_call G_law_at (hr.mono (by omega)) (by rfl) T.g_law_at k_law_at b_law_at .nil pass0 (pa_cons (pv 0) (pa_cons pe_int pa_nil))) pe_int) pe_int) pa_nil)))))) pss_nil)
      (pss_cons (ps_set (i := 9) sc_law.nd rfl (Or.inl rfl) (pe_call G_jump (hr.mono (by omega)) (by rfl) T.g_jump k_jump b_jump .nil pass0 (pa_cons (pv 7) (pa_cons (pv 8) (pa_cons (pv 3) pa_nil)))))
      (pss_cons (ps_if (PW.pt (pw_or (pt_not (pt_val (pe_callB call_isi (by rfl) T.f_isinstance (by decide +kernel) (pa_cons (pv 9) (pa_cons (pe_bltn (v := .ty "int") (by rfl) T.f_int (by decide +kernel) rfl) pa_nil))))) (pw_or1 (pt_val (pe_callB call_isi (by rfl) T.f_isinstance (by decide +kernel) (pa_cons (pv 9) (pa_cons (pe_bltn (v := .ty "bool") (by rfl) T.f_bool (by decide +kernel) rfl) pa_nil))))))) (pss_one (ps_ret pe_bl)) pss_nil)
      (pss_cons (ps_if (pt_not (pt_val (pe_call G_law_right (hr.mono (by omega)) (by rfl) T.g_law_right k_law_right b_law_right .nil pass0 (pa_cons (pe_call G_cells_of (hr.mono (by omega)) (by rfl) T.g_cells_of k_cells_of b_cells_of .nil pass0 (pa_cons (pv 6) (pa_cons (pv 9) pa_nil))) (pa_cons (pe_call G_law_listed (hr.mono (by omega)) (by rfl) T.g_law_listed k_law_listed b_law_listed .nil pass0 (pa_cons (pe_call G_law_glided (hr.mono (by omega)) (by rfl) T.g_law_glided k_law_glided b_law_glided .nil pass0 (pa_cons (pv 1) (pa_cons (pv 2) (pa_cons (pv 5) (pa_cons (pv 3) pa_nil))))) pa_nil)) pa_nil))))) (pss_one (ps_ret pe_bl)) pss_nil)
      (pss_cons (ps_set (i := 10) sc_law.nd rfl (Or.inl rfl) (pe_call G_cells_of (hr.mono (by omega)) (by rfl) T.g_cells_of k_cells_of b_cells_of .nil pass0 (pa_cons (pv 6) (pa_cons (pe_call G_jump (hr.mono (by omega)) (by rfl) T.g_jump k_jump b_jump .nil pass0 (pa_cons (pv 7) (pa_cons (pv 9) (pa_cons pe_int pa_nil)))) pa_nil))))
      (pss_cons (ps_if (pt_not (pt_val (pe_call G_law_right (hr.mono (by omega)) (by rfl) T.g_law_right k_law_right b_law_right .nil pass0 (pa_cons (pv 10) (pa_cons (pe_call G_law_listed (hr.mono (by omega)) (by rfl) T.g_law_listed k_law_listed b_law_listed .nil pass0 (pa_cons (pe_call G_law_glided (hr.mono (by omega)) (by rfl) T.g_law_glided k_law_glided b_law_glided .nil pass0 (pa_cons (pv 1) (pa_cons (pv 2) (pa_cons (pv 5) (pa_cons (pe_op op_add (pv 3) pe_int) pa_nil))))) pa_nil)) pa_nil))))) (pss_one (ps_ret pe_bl)) pss_nil)
      (pss_one (ps_ret (pe_and (pe_cmpR op_eq (pe_call G_jump (hr.mono (by omega)) (by rfl) T.g_jump k_jump b_jump .nil pass0 (pa_cons (pv 7) (pa_cons (pv 8) (pa_cons (pv 3) pa_nil)))) (pv 9) (nomark _)) (pe_one (pe_cmpR op_eq (pe_call G_jump (hr.mono (by omega)) (by rfl) T.g_jump k_jump b_jump .nil pass0 (pa_cons (pv 7) (pa_cons (pv 8) (pa_cons pe_int pa_nil)))) (pv 8) (nomark _)))))))))))))))))))))))), ?_⟩
  have ey2 : sAt ns 7 % 9 = (y : Int) := by rw [ey, Int.toNat_of_nonneg (by omega)]
  refine ⟨_, rfl, a, ns, rfl, hS, fun ma H1 s1 hma => ?_⟩
  rw [← em] at hma
  have hS1 := sql_same hS s1
  refine ⟨fun σ' H' => σ' = [some (.ref a), some (.ref ma), some (.int (y : Nat)), none, none, none, none, none, none, none, none] ∧ H' = H1, ?_, ?_⟩
  · exact ⟨_, rfl, a, ns, 7, rfl, hS1, _, _, rfl, rfl, (by show (0 : Int) < 9; decide), by rw [← ey2]; rfl, rfl⟩
  rintro σ2 H2 ⟨rfl, rfl⟩
  have T1 : TabsN (tabF K) H2 := hT.ext s1
  refine ⟨fun σ' H' => σ' = [some (.ref a), some (.ref ma), some (.int (y : Nat)), none, none, none, none, none, none, none, none] ∧ LamX.ExtN H2 H' ∧ TabsN (tabF K) H', ?_, ?_⟩
  · refine ⟨_, rfl, a, ns, 7, rfl, hS1, _, rfl, a, ns, 12, rfl, hS1, _, _, rfl, rfl, _, _, rfl, rfl, (by show (0 : Int) < 3; decide), rfl, _, rfl, ?_⟩
    by_cases hb : (sAt ns 7 + sAt ns 12) % 3 = 1
    · rw [decide_eq_true (show V.int ((sAt ns 7 + sAt ns 12) % 3) = V.int 1 by rw [hb])]
      refine iteT ?_
      refine ⟨_, rfl, _, rfl, _, rfl, a, ma, ns, m, y, rfl, hS1, hma, m0, hm, hy, T1, fun H3 e3 T3 => ⟨_, rfl, iteF ⟨rfl, e3, T3⟩⟩⟩
    · rw [decide_eq_false (show ¬ V.int ((sAt ns 7 + sAt ns 12) % 3) = V.int 1 from fun z => hb (by injection z))]
      exact iteF (iteF ⟨rfl, LamX.ExtN.refl _, T1⟩)
  rintro σ3 H3 ⟨rfl, e3, T3⟩
  have hS3 := sql_n hS1 e3
  have hma3 := e3 _ _ hma (fun ps z => by cases z)
  have en9 : sAt ns 9 % 9 = (((sAt ns 9 % 9).toNat : Nat) : Int) := by rw [Int.toNat_of_nonneg (by omega)]
  refine ⟨fun σ' H' => σ' = [some (.ref a), some (.ref ma), some (.int (y : Nat)), some (.int (sAt ns 9 % 9)), none, none, none, none, none, none, none] ∧ H' = H3, ?_, ?_⟩
  · refine ⟨_, rfl, a, ns, 9, rfl, hS3, _, _, rfl, rfl, (by show (0 : Int) < 9; decide), rfl, rfl⟩
  rintro σ4 H4 ⟨rfl, rfl⟩
  refine ⟨fun σ' H' => σ' = [some (.ref a), some (.ref ma), some (.int (y : Nat)), some (.int (lwNb ns : Nat)), none, none, none, none, none, none, none] ∧ H' = H4, ?_, ?_⟩
  · refine ⟨_, rfl, a, ns, 8, rfl, hS3, _, _, rfl, rfl, (by show (0 : Int) < 3; decide), rfl, _, rfl, ?_⟩
    by_cases hb : sAt ns 8 % 3 = 1
    · rw [decide_eq_true (show V.int (sAt ns 8 % 3) = V.int 1 by rw [hb])]
      have e : ((lwNb ns : Nat) : Int) = sAt ns 9 % 38 := by
        unfold lwNb
        rw [if_pos hb, Int.toNat_of_nonneg (by omega)]
      rw [e]
      exact iteT ⟨_, rfl, a, ns, 9, rfl, hS3, _, _, rfl, rfl, (by show (0 : Int) < 38; decide), rfl, rfl⟩
    · rw [decide_eq_false (show ¬ V.int (sAt ns 8 % 3) = V.int 1 from fun z => hb (by injection z))]
      have e : ((lwNb ns : Nat) : Int) = sAt ns 9 % 9 := by
        unfold lwNb
        rw [if_neg hb, Int.toNat_of_nonneg (by omega)]
      rw [e]
      exact iteF ⟨rfl, rfl⟩
  rintro σ5 H5 ⟨rfl, rfl⟩
  refine ⟨fun σ' H' => σ' = [some (.ref a), some (.ref ma), some (.int (y : Nat)), some (.int (lwNb ns : Nat)), some (.int (lwM0 ns)), none, none, none, none, none, none] ∧ H' = H5, ?_, ?_⟩
  · refine ⟨_, rfl, a, ns, 12, rfl, hS3, _, _, rfl, rfl, (by show (0 : Int) < 3; decide), _, _, rfl, rfl, ?_⟩
    refine ⟨_, rfl, a, _, rfl, .inl hS3, _, _, rfl, rfl, _, _, rfl, _, _, rfl, _, _, rfl, rfl, ?_⟩
    rw [List.length_map]
    exact ⟨rfl, rfl⟩
  rintro σ6 H6 ⟨rfl, rfl⟩
  have m0le := lwM0_le ns
  have eM : ((lwM ns : Nat) : Int) = (if ((lwNb ns : Nat) : Int) > 12 then (if 4 < lwM0 ns then 4 else lwM0 ns) else lwM0 ns) := by
    unfold lwM
    rw [Int.toNat_of_nonneg]
    omega
  refine ⟨fun σ' H' => σ' = [some (.ref a), some (.ref ma), some (.int (y : Nat)), some (.int (lwNb ns : Nat)), some (.int (lwM ns : Nat)), none, none, none, none, none, none] ∧ H' = H6, ?_, ?_⟩
  · refine ⟨_, rfl, _, _, rfl, rfl, _, rfl, ?_⟩
    rw [eM]
    by_cases hb : ((lwNb ns : Nat) : Int) > 12
    · rw [decide_eq_true hb, if_pos hb]
      exact iteT ⟨_, rfl, _, _, rfl, rfl, rfl⟩
    · rw [decide_eq_false hb, if_neg hb]
      exact iteF ⟨rfl, rfl⟩
  rintro σ7 H7 ⟨rfl, rfl⟩
  obtain ⟨n, hn⟩ : ∃ n, n = kk * 2 ^ lwNb ns := ⟨_, rfl⟩
  have kk4 : kk < 4 := by rw [ekk]; omega
  have nle : n ≤ 412316860416 := by rw [hn]; exact nOf_le kk4 (lwNb_le ns)
  have en : sAt ns 8 / 3 % 4 * 2 ^ (lwNb ns) = (n : Int) := by
    rw [hn, Int.natCast_mul, Int.natCast_pow, ekk, Int.toNat_of_nonneg (by omega)]
    rfl
  have nb37 := lwNb_le ns
  refine ⟨fun σ' H' => σ' = [some (.ref a), some (.ref ma), some (.int (y : Nat)), some (.int (n : Nat)), some (.int (lwM ns : Nat)), none, none, none, none, none, none] ∧ H' = H7, ?_, ?_⟩
  · refine ⟨_, rfl, a, ns, 8, rfl, hS3, _, _, rfl, rfl, ⟨by decide, by decide⟩, _, _, rfl, rfl, (by show (0 : Int) < 4; decide), _, rfl, _, _, rfl, rfl, ⟨by omega, by omega, by omega⟩, ?_⟩
    rw [← en]
    exact ⟨rfl, rfl⟩
  rintro σ8 H8 ⟨rfl, rfl⟩
  refine ⟨fun σ' H' => ∃ Dp : Addr, σ' = [some (.ref a), some (.ref ma), some (.int (y : Nat)), some (.int (n : Nat)), some (.int (lwM ns : Nat)), some (.ref Dp), none, none, none, none, none] ∧ Same H8 H' ∧ H' Dp = some (.dT (dV L)), ?_, ?_⟩
  · refine ⟨_, rfl, _, rfl, _, rfl, a, ns, 10, rfl, hS3, _, rfl, ?_⟩
    refine ⟨_, rfl, a, ns, 11, rfl, hS3, _, rfl, a, ns, 13, lwM ns, X, Y, ?_, hS3, ?_, fun Dp H9 s9 hDp => ⟨Dp, rfl, s9, ?_⟩⟩
    · rw [eX, eY]
      rfl
    · have := lwM_le ns
      omega
    · rw [hDp, eL]
  rintro σ9 H9 ⟨Dp, rfl, s9, hDp⟩
  have hS9 := sql_same hS3 s9
  have hma9 := s9 _ _ hma3
  refine fun g dx hg hdx ngx => ?_
  have s2 : Same H9 (upd (upd H9 dx (.own g)) g (.ins (CG K) dx [])) := fun x o e => by
    rw [upd_ne (ne_of_none e hg), upd_ne (ne_of_none e hdx)]
    exact e
  have S1 : Bd S 16777216 := by rw [hSd]; exact mS_bd
  have S2 : ∀ j s, j ≤ 48 → s ≤ 7 → S (solid j s) := by rw [hSd]; exact SL.solid
  refine ⟨g, dx, rfl, upd_same, S1, S2, fun O2 H2 ⟨t2, G2⟩ k2 => ⟨rfl, ?_⟩⟩
  have s02 : Same H9 O2 := fun x o e => k2 _ _ (s2 _ _ e) (ne_of_none e hg)
  have hma2 := G2.sub (s02 _ _ hma9)
  obtain ⟨n1, n2, n3, n4, n5, n6⟩ := own_ne G2
  obtain ⟨h1, h2, h3, h4⟩ := own_lists G2
  refine ⟨t2.lM, .lst [], h1, trivial, fun od1 => ⟨t2.lL, .lst [], (upd_ne n1.symm).trans h2, trivial, fun od2 => ⟨t2.lV, .lst [], (upd_ne n4.symm).trans ((upd_ne n2.symm).trans h3), trivial, fun od3 => ⟨t2.lS, .lst [], (upd_ne n6.symm).trans ((upd_ne n5.symm).trans ((upd_ne n3.symm).trans h4)), trivial, fun od4 => ?_⟩⟩⟩⟩
  have hmaL : lkd H2 t2 od1 od2 od3 od4 ma = some (.lst (fl8 m)) := by
    have nn : ∀ {x : Addr}, H2 x = some (.lst []) → ma ≠ x := fun hx z => by
      rw [z, hx] at hma2
      cases hma2
    unfold lkd
    rw [upd_ne (nn h4), upd_ne (nn h3), upd_ne (nn h2), upd_ne (nn h1)]
    exact hma2
  refine ⟨_, rfl, _, rfl, _, rfl, ma, m, y, rfl, hmaL, hm, hy, fun H3 s3 => ?_⟩
  refine ⟨gtext m y, gparts m y, gcls m y, rfl, gtext_ne hy hm, gtext_len hy hm, gparts_split hy hm, gcls_len m y, ?_, fun i p c h1 h2 => gpartOk hy hm h1 h2, gcls_zero m0 hy, fun r H4 s4 hr4 => ?_⟩
  · have := gparts_len m y
    rw [← gcls_len]
    omega
  refine fun jp dj hjp hdj ngj => ?_
  refine ⟨jp, dj, g, r, rfl, upd_same, fun d H5 hd0 hd hj k5 => ⟨rfl, ?_⟩⟩
  have s45 : Same H4 H5 := fun x o e => k5 _ _ (by rw [upd_ne (ne_of_none e hjp), upd_ne (ne_of_none e hdj)]; exact e) (ne_of_none e hjp)
  have s25 : Same (lkd H2 t2 od1 od2 od3 od4) H5 := s3.trans (s4.trans s45)
  obtain ⟨⟨f4, f3, f2, f1⟩, O6, G6, sO6, xl6, nw6⟩ := own_locked G2 s25
  refine ⟨f4, f3, f2, f1, ?_⟩
  have jo6 : JoAt K O6 jp g r d := ⟨dj, xl6 _ _ hj (.inr ⟨_, _, _, rfl⟩)⟩
  have ru6 : RuleIs K O6 r (gcls m y) := (hr4.same s45).l xl6
  have hd4 : H4 d = none := by
    refine Classical.byContradiction fun z => ?_
    cases q4 : H4 d with
    | none => exact z q4
    | some o =>
      have : (upd (upd H4 dj (.own jp)) jp (.ins (CJ K) dj [])) d = some o := by rw [upd_ne (ne_of_none q4 hjp), upd_ne (ne_of_none q4 hdj)]; exact q4
      rw [hd0] at this
      cases this
  have hd2 : H2 d = none := lkd_none hd4 (s3.trans s4)
  have hd9 : H9 d = none := by
    cases q0 : H9 d with
    | none => rfl
    | some o => rw [G2.same _ _ (s02 _ _ q0)] at hd2; cases hd2
  have od6 : O6 d = some (.dT []) := nw6 _ _ hd2 hd
  have S3 : Bd R 16777215 := by rw [hRd]; exact mR_bd
  have J6 : JS K S R gl jp g r d (gcls m y) ⟨[], []⟩ O6 (ulk H5 t2) := ⟨jo6, ru6, by rw [hgl]; exact gcls_gl m0 hm hy, ⟨t2, G6⟩, JV.new S3 od6⟩
  have s96 : Same H9 O6 := s02.trans sO6
  have bp : bnd (plOf Ls) 274877906952 := pl_bnd mb (by rw [eX]; exact baseOf_le _) (by rw [eY]; exact baseOf_le _)
  -- a jump
  have hJ : ∀ (t c : Nat) (z : Int) (hz : z = (c : Nat)) (w1 : GWd) (O1 H1 : Hp) (i k : Nat) (Qk : VK) (E : XK), FamN S R (mainP gl Ls X Y lst.ndK mb) t c → JS K S R gl jp g r d (gcls m y) w1 O1 H1 → Same H9 O1 → w1.cs[i]? = some (cw (ev gl t (plOf Ls)) k) → isF (ev gl t (plOf Ls)) k → t + c ≤ 412316860417 →
      (∀ (i2 k2 : Nat) (w2 : GWd) (O2 H2 : Hp), JS K S R gl jp g r d (gcls m y) w2 O2 H2 → Same H9 O2 → ExC w1 w2 → w2.cs[i2]? = some (cw (ev gl (t + c) (plOf Ls)) k2) → isF (ev gl (t + c) (plOf Ls)) k2 → Qk (.int (i2 : Nat)) H2) →
      spJump K S R [.ref jp, .int (i : Nat), .int z] H1 Qk E := by
    intro t c z hz w1 O1 H1 i k Qk E hF J sm hi hk hb hq
    refine ⟨jp, g, r, d, gcls m y, mainP gl Ls X Y lst.ndK mb, t, c, 274877906952 + (t : Nat), w1, O1, i, k, by rw [hz], J, hF, hi, hk, bnd_ev gl bp t, by omega, ?_, fun k2 hk2 i2 w2 O2' H2' J2 x2 sx2 hi2 => ?_⟩
    · show (274877906952 : Int) + (t : Nat) + (c : Nat) ≤ 1099511627776
      omega
    · exact hq i2 k2 w2 O2' H2' J2 (same_d sm hd9 sx2) x2 hi2 hk2
  have gox : gl.ox = offX y := by rw [hgl]; rfl
  have goy : gl.oy = offY y := by rw [hgl]; rfl
  have egm : gl.m = m := by rw [hgl]; rfl
  have ez : ev gl 0 (plOf Ls) = plOf Ls := ev_zero _ _
  -- field_of
  refine ⟨fun σ' H' => ∃ (i k : Nat) (w1 : GWd) (O1 : Hp), σ' = [some (.ref a), some (.ref ma), some (.int (y : Nat)), some (.int (n : Nat)), some (.int (lwM ns : Nat)), some (.ref Dp), some (.ref g), some (.ref jp), some (.int (i : Nat)), none, none] ∧
      JS K S R gl jp g r d (gcls m y) w1 O1 H' ∧ Same H9 O1 ∧ w1.cs[i]? = some (cw (ev gl 0 (plOf Ls)) k) ∧ isF (ev gl 0 (plOf Ls)) k, ?_, ?_⟩
  · refine ⟨_, rfl, _, rfl, Dp, L, rfl, G6.sub (s96 _ _ hDp), ndL, by omega, hzL, fun p H7 Ls2 hp s7 hc7 li7 => ?_⟩
    have eLs2 : Ls2 = Ls := li7.unique lst
    subst eLs2
    obtain ⟨O7, G7, m7, nw7⟩ := G6.after s7
    have hc7' : CellsAt O7 p Ls2 := hc7.nw hp nw7 fun a l h => G7.tupO h
    refine ⟨g, _, O7, p, Ls2, rfl, ⟨t2, G7⟩, hc7', fun c hc => ?_, fun i hi => ?_, fun k' hk' _ i w8 O8 H8' G8 x8 m8 hi => ?_⟩
    · have h1 := mb c hc
      have h2 := baseOf_le (sAt ns 10)
      have h3 := baseOf_le (sAt ns 11)
      rw [← eX] at h2
      rw [← eY] at h3
      show (-1099511627776 ≤ c.1 ∧ c.1 < 1099511627776) ∧ (-1099511627776 ≤ c.2.1 ∧ c.2.1 < 1099511627776) ∧ c.2.2 ≤ 7
      omega
    · rw [hSd]
      exact mS_pre (by omega)
    · rw [ez]
      exact ⟨i, k', w8, O8, rfl, (J6.s ⟨t2, G7⟩ (ExC.refl _) m7).s G8 x8 m8, (s96.trans m7).trans m8, hi, hk'⟩
  rintro σ10 H10 ⟨i, k, w10, O10, rfl, J10, s10, hi10, hk10⟩
  have hS10 : ∀ {O' H' : Hp}, Same H9 O' → Same O' H' → SqL K H' a (ns.map V.int) := fun s s' => sql_same (sql_same hS9 s) s'
  refine ⟨fun σ' H' => ∃ (w1 : GWd) (O1 : Hp), σ' = [some (.ref a), some (.ref ma), some (.int (y : Nat)), some (.int (n : Nat)), some (.int (lwM ns : Nat)), some (.ref Dp), some (.ref g), some (.ref jp), some (.int (i : Nat)), none, none] ∧
      JS K S R gl jp g r d (gcls m y) w1 O1 H' ∧ Same H9 O1 ∧ w1.cs[i]? = some (cw (ev gl 0 (plOf Ls)) k), ?_, ?_⟩
  · obtain ⟨t10, G10⟩ := J10.gv
    refine ⟨_, rfl, a, ns, 12, rfl, hS10 s10 G10.same, _, _, rfl, rfl, ⟨by decide, by decide⟩, _, _, rfl, rfl, (by show (0 : Int) < 2; decide), rfl, _, rfl, ?_⟩
    by_cases hb : sAt ns 12 / 3 % 2 = 1
    · rw [decide_eq_true (show V.int (sAt ns 12 / 3 % 2) = V.int 1 by rw [hb])]
      refine iteT ?_
      refine ⟨_, rfl, _, rfl, _, rfl, a, ns, 12, rfl, hS10 s10 G10.same, _, _, rfl, rfl, ⟨by decide, by decide⟩, _, _, rfl, rfl, (by show (0 : Int) < 7; decide), ?_⟩
      have e6 : sAt ns 12 / 6 % 7 = (a6 : Int) := by rw [ea6, Int.toNat_of_nonneg (by omega)]
      refine hJ 0 a6 _ e6 w10 O10 H10 i k _ E ?_ J10 s10 hi10 hk10 (by omega) fun i2 k2 w2 O2' H2' J2 sm2 x2 _ _ => ⟨w2, O2', rfl, J2, sm2, x2 _ _ hi10⟩
      rw [hSd, hRd]
      exact mFam_a (by omega)
    · rw [decide_eq_false (show ¬ V.int (sAt ns 12 / 3 % 2) = V.int 1 from fun z => hb (by injection z))]
      exact iteF ⟨w10, O10, rfl, J10, s10, hi10⟩
  rintro σ11 H11 ⟨w11, O11, rfl, J11, s11, hi11⟩
  have Fn : FamN S R (mainP gl Ls X Y lst.ndK mb) 0 n := by
    rw [hSd, hRd, hn]
    exact mFam_n kk4
  have F1 : FamN S R (mainP gl Ls X Y lst.ndK mb) n 1 := by
    rw [hSd, hRd, hn]
    exact mFam_1
  have F0 : FamN S R (mainP gl Ls X Y lst.ndK mb) 0 0 := by rw [hSd, hRd]; exact mFam_0
  refine ⟨_, rfl, _, rfl, _, rfl, ?_⟩
  refine hJ 0 n _ rfl w11 O11 H11 i k _ E Fn J11 s11 hi11 hk10 (by omega) fun i2 k2 w12 O12 H12 J12 s12 x12 hi2 hk2 => ?_
  rw [Nat.zero_add] at hi2 hk2
  refine ⟨_, rfl, .int _, .ty "int", .type "int", .type "int", true, rfl, .ty _, .base (.int _), kit_ty (by decide +kernel), _, rfl, iteF ?_⟩
  refine ⟨_, rfl, .int _, .ty "bool", .type "int", .type "bool", false, rfl, .ty _, .base (.int _), kit_ty (by decide +kernel), _, rfl, iteF ?_⟩
  obtain ⟨t12, G12⟩ := J12.gv
  have gl1 := fun c => glL_len (m := m) (y := y) (n := c) (L := L)
  refine ⟨_, rfl, _, rfl, g, w12, O12, i2, ev gl n (plOf Ls), k2, rfl, ⟨t12, G12⟩, hi2, hk2.pos, hk2.sup, ?_, fun p1 L1 O13 H13 G13 s13 hc1 li1 => ?_⟩
  · have := lives_ev (n := n) gox goy ndL pl k2
    omega
  have J13 := J12.s G13 (ExC.refl _) s13
  obtain ⟨t13, G13'⟩ := G13
  have s913 := s12.trans s13
  refine ⟨_, rfl, _, rfl, _, rfl, _, rfl, ma, Dp, m, y, n, L, rfl, G13'.sub (s913 _ _ hma9), hm, hy, G13'.sub (s913 _ _ hDp), ndL, by omega, fun c hc => (memL c hc).2.2.2, fun D H14 s14 hD => ?_⟩
  refine ⟨D, glL m y n L, rfl, hD, glL_nd ndL, ?_, glL_nz, fun p2 H15 L2 _ s15 hc2 li2 => ?_⟩
  · have := gl1 n
    omega
  rw [← egm] at li2
  obtain ⟨eq1, len1⟩ := listed_ev gox goy ndL pl li1 li2
  subst eq1
  refine ⟨p1, p2, L1, rfl, ((hc1.same G13'.same).same s14).same s15, hc2, by omega, _, rfl, iteF ?_⟩
  obtain ⟨O15, G15, s15', nw15⟩ := G13'.after (s14.trans s15)
  have J15 := J13.s ⟨t13, G15⟩ (ExC.refl _) s15'
  have s915 := s913.trans s15'
  refine ⟨_, rfl, _, rfl, _, rfl, hJ n 1 _ rfl w12 O15 H15 i2 k2 _ E F1 J15 s915 hi2 hk2 (by omega) fun i3 k3 w16 O16 H16 J16 s16 x16 hi3 hk3 => ?_⟩
  obtain ⟨t16, G16⟩ := J16.gv
  refine ⟨g, w16, O16, i3, ev gl (n + 1) (plOf Ls), k3, rfl, ⟨t16, G16⟩, hi3, hk3.pos, hk3.sup, ?_, fun p3 L3 O17 H17 G17 s17 hc3 li3 => ?_⟩
  · have := lives_ev (n := n + 1) gox goy ndL pl k3
    omega
  have J17 := J16.s G17 (ExC.refl _) s17
  obtain ⟨t17, G17'⟩ := G17
  have s917 := s16.trans s17
  refine ⟨_, rfl, _, rfl, _, rfl, _, rfl, _, rfl, _, _, rfl, rfl, ma, Dp, m, y, n + 1, L, rfl, G17'.sub (s917 _ _ hma9), hm, hy, G17'.sub (s917 _ _ hDp), ndL, by omega, fun c hc => (memL c hc).2.2.2, fun D2 H18 s18 hD2 => ?_⟩
  refine ⟨D2, glL m y (n + 1) L, rfl, hD2, glL_nd ndL, ?_, glL_nz, fun p4 H19 L4 _ s19 hc4 li4 => ?_⟩
  · have := gl1 (n + 1)
    omega
  rw [← egm] at li4
  obtain ⟨eq3, len3⟩ := listed_ev gox goy ndL pl li3 li4
  subst eq3
  refine ⟨p3, p4, L3, rfl, ((hc3.same G17'.same).same s18).same s19, hc4, by omega, _, rfl, iteF ?_⟩
  obtain ⟨O19, G19, s19', nw19⟩ := G17'.after (s18.trans s19)
  have J19 := J17.s ⟨t17, G19⟩ (ExC.refl _) s19'
  have s919 := s917.trans s19'
  have hi16 := x16 _ _ hi2
  have hi0 := x16 _ _ (x12 _ _ hi11)
  refine ⟨_, rfl, _, rfl, _, rfl, hJ 0 n _ rfl w16 O19 H19 i k _ E Fn J19 s919 hi0 hk10 (by omega) fun i4 k4 w20 O20 H20 J20 s20 x20 hi4 hk4 => ?_⟩
  rw [Nat.zero_add] at hi4 hk4
  obtain ⟨t20, G20⟩ := J20.gv
  have ek := isF_unique hk4 hk2
  subst ek
  have ei := ids_eq G20.cnd hi4 (x20 _ _ hi16)
  subst ei
  refine ⟨_, rfl, rfl, _, rfl, ?_⟩
  rw [decide_eq_true (rfl : V.int (i4 : Nat) = V.int (i4 : Nat))]
  refine iteT ?_
  refine ⟨_, rfl, _, rfl, ?_⟩
  refine hJ 0 0 _ rfl w20 O20 H20 i k _ E F0 J20 s20 (x20 _ _ hi0) hk10 (by omega) fun i5 k5 w21 O21 H21 J21 s21 x21 hi5 hk5 => ?_
  have ek5 := isF_unique hk5 hk10
  subst ek5
  obtain ⟨t21, G21⟩ := J21.gv
  have ei5 := ids_eq G21.cnd hi5 (x21 _ _ (x20 _ _ hi0))
  subst ei5
  refine ⟨_, rfl, rfl, ?_⟩
  rw [decide_eq_true (rfl : V.int (i5 : Nat) = V.int (i5 : Nat))]
  exact q _
end
end Jf
/-! JfEnd -/
set_option autoImplicit true
set_option Elab.async false
set_option linter.all false
set_option maxRecDepth 100000
set_option maxHeartbeats 0
/-! The end. -/
namespace Jf
open PySem PySem.Spec PyProof.Rows L2
theorem law_atS {w : World} {K : PySem.W.Frag} {h : Heap} {mg : Str → Option Value} {f : Addr} (X : K.In h) (G : h.Ns mainGlobals mg) (hfa : mg ("law" : Str) = some (.ref f)) (c : He.SaysX faL fnL [] tfL (fun _ => true) w h K) :
    LamX.LawAtS PySem.Challenge.rw_jumpfield_k57_whole_far_gliding w K CX0 62 63 "_law_script" mg f h := by
  have T : Txt K mg := ⟨c.t.d, h, X, G⟩
  have e := hfa.symm.trans T.g_law
  have ef : f = He.fAd K (("law" : Str), none) := by
    injection e with e
    injection e with e
  subst ef
  obtain ⟨fd, F, b⟩ := T.d_law
  have hm : ((("filled" : Str), none) : He.Defn) ∈ tfL := List.mem_singleton.mpr rfl
  refine ⟨fd, [He.cT K ("filled", none)], spLaw K, fun p hp => ?_, fun p hp => ?_, fun p hp => ?_, fun s u => ?_, fun H a ns hl _ hH hS => ?_, fun base KX GX hTB => ?_⟩
  · rw [List.mem_singleton.mp hp]
    exact c.empty _ hm
  · rw [List.mem_singleton.mp hp]
    exact c.out _ hm
  · rw [List.mem_singleton.mp hp]
    exact PySem.W.codeHd_of_K X (c.hd _ hm)
  · exact FunD.bindsA (ps := ["_law_script"]) F (fun _ _ _ _ _ _ us hl => match us, hl with | [_], _ => rfl) s [u] rfl
  · refine ⟨a, ns, rfl, hS, hl, fun p hp => ?_, fun _ => rfl⟩
    rw [List.mem_singleton.mp hp]
    exact ⟨#[], hH _ (List.mem_singleton.mpr rfl), True.intro, fun pos cv hc => by cases hc⟩
  · have hTB1 := hTB _ (List.mem_singleton.mpr rfl)
    refine F.ok sc_law (fun vs H Q E h => ?_) fun cdv A outer s H vs Q E hr h => ?_
    · obtain ⟨a, ns, rfl, _⟩ := h
      rfl
    · obtain ⟨t, h1, h2⟩ := law_body T hTB1 cdv A outer s H vs Q E hr h
      exact ⟨t, PSs.nox h1, h2⟩
end Jf
open PySem PySem.W PySem.Calls PyProof.Rows
theorem PySem.Challenge.cw_jumpfield_k57_whole_far_gliding_holds : PySem.Challenge.rw_jumpfield_k57_whole_far_gliding.Holds := by
  w_on; o_law
  refine HandSHeadRun.head_any (r := Jf.R) (q := view Jf.R.prog [Jf.lawAt]) (H := Jf.hkJ) (ob := Jf.ob) (M := 8000) (loose := Jf.looseL) (d := HandSHeadRun.topDef Jf.R.prog Jf.lawAt) (kwd := []) Jf.ob_eq
    (by kernel_rfl) (fun s => by kernel_rfl) Jf.run (by kernel_rfl) (by kernel_rfl) (by kernel_rfl) (by rfl) (by first | assumption | decide +kernel) (by decide +kernel) ⟨rfl, rfl, rfl, rfl, rfl, by decide +kernel⟩ ?hw ?hc
  case hw => w_witness2
  case hc =>
    refine LamX.walk_ofTsE (l := PySem.Challenge.rw_jumpfield_k57_whole_far_gliding) (n := 63) (k := 62) (x := "_law_script") (CX := fun _ => L2.CX0) rfl (by decide) (by kernel_rfl) ⟨rfl, by decide, by decide⟩ ?F (fun _ _ _ _ _ z => z)
    intro w mg fa h Y G hmg0
    obtain ⟨K, KX, c⟩ := Y
    have hmg : mg ("law" : PySem.Str) = some (.ref fa) := by
      have e : (HandSHeadRun.topDef Jf.R.prog Jf.lawAt).name = ("law" : PySem.Str) := by kernel_rfl
      rw [← e]
      exact hmg0
    exact ⟨K, KX, Jf.law_atS KX G hmg c⟩
