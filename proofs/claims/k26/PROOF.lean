import PyProof.Rows.All
import Wide.All
import OpenK.AllK
import Wide.FinOn
import KE.KTupSum
import HandS.ForMost
import HandS.Wide
import HandS.Conv
import HandS.Star
import HandS.TupAny
import HandS.IsInst
import HandS.Style
import HandS.Zip
import HandS.Evl
import HandS.WordsExc
import HandS.Defaults
import HandS.Head0
import HandS.Head1
import HandS.Head2
import HandS.HeadEnd
import HandS.HeadHook1
import HandS.HeadHook2
import KE.KEqSeq
import PySem.Challenge.RW_sourceforms_k26_whole_counts_of_boxes

set_option Elab.async false
set_option linter.all false
set_option maxRecDepth 100000
set_option maxHeartbeats 4000000
namespace K26
open PySem PySem.Spec PyProof.Rows L2
def topS (i : Nat) : Stmt := PySem.Challenge.pw_sourceforms_k26_whole_counts_of_boxes.main.body.getD i (.Pass ⟨0, 0, 0, 0⟩)
abbrev FnP (K : PySem.W.Frag) (x : Str) (st : Stmt) (f : Addr) (fd : FuncData) : Prop := FunD K x x (defArgs st) (defBody st) (defScope st) [] [] f fd
abbrev s_is_whole : Stmt := topS 3
abbrev N_is_whole : List Str := ["value"]
theorem sc_is_whole : FnScope N_is_whole ["value"] (defScope s_is_whole) := ⟨rfl, rfl, rfl, by decide +kernel, rfl, by decide +kernel, by decide +kernel⟩
abbrev s_is_from : Stmt := topS 4
abbrev N_is_from : List Str := ["value", "least", "most"]
theorem sc_is_from : FnScope N_is_from ["value", "least", "most"] (defScope s_is_from) := ⟨rfl, rfl, rfl, by decide +kernel, rfl, by decide +kernel, by decide +kernel⟩
abbrev s_row_in : Stmt := topS 8
abbrev N_row_in : List Str := ["parts", "most", "row", "part", "wide", "place"]
theorem sc_row_in : FnScope N_row_in ["parts", "most"] (defScope s_row_in) := ⟨rfl, rfl, rfl, by decide +kernel, rfl, by decide +kernel, by decide +kernel⟩
abbrev s_count_in : Stmt := topS 9
abbrev N_count_in : List Str := ["weight", "row"]
theorem sc_count_in : FnScope N_count_in ["weight", "row"] (defScope s_count_in) := ⟨rfl, rfl, rfl, by decide +kernel, rfl, by decide +kernel, by decide +kernel⟩
abbrev s_require_part : Stmt := topS 10
abbrev N_require_part : List Str := ["value"]
theorem sc_require_part : FnScope N_require_part ["value"] (defScope s_require_part) := ⟨rfl, rfl, rfl, by decide +kernel, rfl, by decide +kernel, by decide +kernel⟩
abbrev s_require_weight : Stmt := topS 11
abbrev N_require_weight : List Str := ["value"]
theorem sc_require_weight : FnScope N_require_weight ["value"] (defScope s_require_weight) := ⟨rfl, rfl, rfl, by decide +kernel, rfl, by decide +kernel, by decide +kernel⟩
abbrev s_box_count : Stmt := topS 12
abbrev N_box_count : List Str := ["weight", "parts", "most"]
theorem sc_box_count : FnScope N_box_count ["weight", "parts", "most"] (defScope s_box_count) := ⟨rfl, rfl, rfl, by decide +kernel, rfl, by decide +kernel, by decide +kernel⟩
abbrev s_box_row : Stmt := topS 13
abbrev N_box_row : List Str := ["parts", "most"]
theorem sc_box_row : FnScope N_box_row ["parts", "most"] (defScope s_box_row) := ⟨rfl, rfl, rfl, by decide +kernel, rfl, by decide +kernel, by decide +kernel⟩
abbrev s_law_dice : Stmt := topS 15
abbrev N_law_dice : List Str := ["_law_script", "_law_spot", "_law_cell", "_law_left"]
theorem sc_law_dice : FnScope N_law_dice ["_law_script", "_law_spot"] (defScope s_law_dice) := ⟨rfl, rfl, rfl, by decide +kernel, rfl, by decide +kernel, by decide +kernel⟩
abbrev s_law_roll : Stmt := topS 16
abbrev N_law_roll : List Str := ["_law_dice_here", "_law_total", "_law_found", "_law_one", "_law_two"]
theorem sc_law_roll : FnScope N_law_roll ["_law_dice_here", "_law_total"] (defScope s_law_roll) := ⟨rfl, rfl, rfl, by decide +kernel, rfl, by decide +kernel, by decide +kernel⟩
abbrev s_law_pick : Stmt := topS 17
abbrev N_law_pick : List Str := ["_law_dice_here", "_law_items"]
theorem sc_law_pick : FnScope N_law_pick ["_law_dice_here", "_law_items"] (defScope s_law_pick) := ⟨rfl, rfl, rfl, by decide +kernel, rfl, by decide +kernel, by decide +kernel⟩
abbrev s_law_choose : Stmt := topS 18
abbrev N_law_choose : List Str := ["_law_many", "_law_few", "_law_found", "_law_at"]
theorem sc_law_choose : FnScope N_law_choose ["_law_many", "_law_few"] (defScope s_law_choose) := ⟨rfl, rfl, rfl, by decide +kernel, rfl, by decide +kernel, by decide +kernel⟩
abbrev s_law_rows_of : Stmt := topS 19
abbrev N_law_rows_of : List Str := ["_law_parts", "_law_most", "_law_lots", "_law_many", "_law_value", "_law_row", "_law_less", "_law_weight"]
theorem sc_law_rows_of : FnScope N_law_rows_of ["_law_parts", "_law_most"] (defScope s_law_rows_of) := ⟨rfl, rfl, rfl, by decide +kernel, rfl, by decide +kernel, by decide +kernel⟩
abbrev s_law_right : Stmt := topS 20
abbrev N_law_right : List Str := ["_law_dice_here", "_law_parts", "_law_most", "_law_due", "_law_told", "_law_weight", "_law_less"]
theorem sc_law_right : FnScope N_law_right ["_law_dice_here"] (defScope s_law_right) := ⟨rfl, rfl, rfl, by decide +kernel, rfl, by decide +kernel, by decide +kernel⟩
abbrev s_law_great_right : Stmt := topS 21
abbrev N_law_great_right : List Str := ["_law_dice_here", "_law_parts", "_law_most", "_law_weight", "_law_told", "_law_less"]
theorem sc_law_great_right : FnScope N_law_great_right ["_law_dice_here"] (defScope s_law_great_right) := ⟨rfl, rfl, rfl, by decide +kernel, rfl, by decide +kernel, by decide +kernel⟩
abbrev s_law : Stmt := topS 22
abbrev N_law : List Str := ["_law_script", "_law_spot", "_law_dice_here", "_law_told"]
theorem sc_law : FnScope N_law ["_law_script"] (defScope s_law) := ⟨rfl, rfl, rfl, by decide +kernel, rfl, by decide +kernel, by decide +kernel⟩
/-- where the defs stand, what the names of the module are -/
structure Facts (K : PySem.W.Frag) (mg : Str → Option Value) where
  f_is_whole : Addr
  fd_is_whole : FuncData
  F_is_whole : FnP K "is_whole" s_is_whole f_is_whole fd_is_whole
  g_is_whole : mg "is_whole" = some (.ref f_is_whole)
  b_is_whole : Binds K fd_is_whole ["value"] []
  f_is_from : Addr
  fd_is_from : FuncData
  F_is_from : FnP K "is_from" s_is_from f_is_from fd_is_from
  g_is_from : mg "is_from" = some (.ref f_is_from)
  b_is_from : Binds K fd_is_from ["value", "least", "most"] []
  f_row_in : Addr
  fd_row_in : FuncData
  F_row_in : FnP K "row_in" s_row_in f_row_in fd_row_in
  g_row_in : mg "row_in" = some (.ref f_row_in)
  b_row_in : Binds K fd_row_in ["parts", "most"] []
  f_count_in : Addr
  fd_count_in : FuncData
  F_count_in : FnP K "count_in" s_count_in f_count_in fd_count_in
  g_count_in : mg "count_in" = some (.ref f_count_in)
  b_count_in : Binds K fd_count_in ["weight", "row"] []
  f_require_part : Addr
  fd_require_part : FuncData
  F_require_part : FnP K "require_part" s_require_part f_require_part fd_require_part
  g_require_part : mg "require_part" = some (.ref f_require_part)
  b_require_part : Binds K fd_require_part ["value"] []
  f_require_weight : Addr
  fd_require_weight : FuncData
  F_require_weight : FnP K "require_weight" s_require_weight f_require_weight fd_require_weight
  g_require_weight : mg "require_weight" = some (.ref f_require_weight)
  b_require_weight : Binds K fd_require_weight ["value"] []
  f_box_count : Addr
  fd_box_count : FuncData
  F_box_count : FnP K "box_count" s_box_count f_box_count fd_box_count
  g_box_count : mg "box_count" = some (.ref f_box_count)
  b_box_count : Binds K fd_box_count ["weight", "parts", "most"] []
  f_box_row : Addr
  fd_box_row : FuncData
  F_box_row : FnP K "box_row" s_box_row f_box_row fd_box_row
  g_box_row : mg "box_row" = some (.ref f_box_row)
  b_box_row : Binds K fd_box_row ["parts", "most"] []
  f_law_dice : Addr
  fd_law_dice : FuncData
  F_law_dice : FnP K "_law_dice" s_law_dice f_law_dice fd_law_dice
  g_law_dice : mg "_law_dice" = some (.ref f_law_dice)
  b_law_dice : Binds K fd_law_dice ["_law_script", "_law_spot"] []
  f_law_roll : Addr
  fd_law_roll : FuncData
  F_law_roll : FnP K "_law_roll" s_law_roll f_law_roll fd_law_roll
  g_law_roll : mg "_law_roll" = some (.ref f_law_roll)
  b_law_roll : Binds K fd_law_roll ["_law_dice_here", "_law_total"] []
  f_law_pick : Addr
  fd_law_pick : FuncData
  F_law_pick : FnP K "_law_pick" s_law_pick f_law_pick fd_law_pick
  g_law_pick : mg "_law_pick" = some (.ref f_law_pick)
  b_law_pick : Binds K fd_law_pick ["_law_dice_here", "_law_items"] []
  f_law_choose : Addr
  fd_law_choose : FuncData
  F_law_choose : FnP K "_law_choose" s_law_choose f_law_choose fd_law_choose
  g_law_choose : mg "_law_choose" = some (.ref f_law_choose)
  b_law_choose : Binds K fd_law_choose ["_law_many", "_law_few"] []
  f_law_rows_of : Addr
  fd_law_rows_of : FuncData
  F_law_rows_of : FnP K "_law_rows_of" s_law_rows_of f_law_rows_of fd_law_rows_of
  g_law_rows_of : mg "_law_rows_of" = some (.ref f_law_rows_of)
  b_law_rows_of : Binds K fd_law_rows_of ["_law_parts", "_law_most"] []
  f_law_right : Addr
  fd_law_right : FuncData
  F_law_right : FnP K "_law_right" s_law_right f_law_right fd_law_right
  g_law_right : mg "_law_right" = some (.ref f_law_right)
  b_law_right : Binds K fd_law_right ["_law_dice_here"] []
  f_law_great_right : Addr
  fd_law_great_right : FuncData
  F_law_great_right : FnP K "_law_great_right" s_law_great_right f_law_great_right fd_law_great_right
  g_law_great_right : mg "_law_great_right" = some (.ref f_law_great_right)
  b_law_great_right : Binds K fd_law_great_right ["_law_dice_here"] []
  f_law : Addr
  fd_law : FuncData
  F_law : FnP K "law" s_law f_law fd_law
  g_law : mg "law" = some (.ref f_law)
  b_law : Binds K fd_law ["_law_script"] []
  z_abs : mg "abs" = none
  z_bool : mg "bool" = none
  z_int : mg "int" = none
  z_isinstance : mg "isinstance" = none
  z_len : mg "len" = none
  z_max : mg "max" = none
  z_min : mg "min" = none
  z_range : mg "range" = none
  z_sum : mg "sum" = none
  z_tuple : mg "tuple" = none
  c_MAX_PARTS : ∃ t, mg "MAX_PARTS" = some (.int 40 t)
  c_MAX_WEIGHT : ∃ t, mg "MAX_WEIGHT" = some (.int 1600 t)
/-! ### for the head -/
def d_is_whole : He.DefD := ⟨("is_whole", none), "is_whole", "is_whole", defArgs s_is_whole, defBody s_is_whole, defScope s_is_whole, [], []⟩
def d_is_from : He.DefD := ⟨("is_from", none), "is_from", "is_from", defArgs s_is_from, defBody s_is_from, defScope s_is_from, [], []⟩
def d_row_in : He.DefD := ⟨("row_in", none), "row_in", "row_in", defArgs s_row_in, defBody s_row_in, defScope s_row_in, [], []⟩
def d_count_in : He.DefD := ⟨("count_in", none), "count_in", "count_in", defArgs s_count_in, defBody s_count_in, defScope s_count_in, [], []⟩
def d_require_part : He.DefD := ⟨("require_part", none), "require_part", "require_part", defArgs s_require_part, defBody s_require_part, defScope s_require_part, [], []⟩
def d_require_weight : He.DefD := ⟨("require_weight", none), "require_weight", "require_weight", defArgs s_require_weight, defBody s_require_weight, defScope s_require_weight, [], []⟩
def d_box_count : He.DefD := ⟨("box_count", none), "box_count", "box_count", defArgs s_box_count, defBody s_box_count, defScope s_box_count, [], []⟩
def d_box_row : He.DefD := ⟨("box_row", none), "box_row", "box_row", defArgs s_box_row, defBody s_box_row, defScope s_box_row, [], []⟩
def d_law_dice : He.DefD := ⟨("_law_dice", none), "_law_dice", "_law_dice", defArgs s_law_dice, defBody s_law_dice, defScope s_law_dice, [], []⟩
def d_law_roll : He.DefD := ⟨("_law_roll", none), "_law_roll", "_law_roll", defArgs s_law_roll, defBody s_law_roll, defScope s_law_roll, [], []⟩
def d_law_pick : He.DefD := ⟨("_law_pick", none), "_law_pick", "_law_pick", defArgs s_law_pick, defBody s_law_pick, defScope s_law_pick, [], []⟩
def d_law_choose : He.DefD := ⟨("_law_choose", none), "_law_choose", "_law_choose", defArgs s_law_choose, defBody s_law_choose, defScope s_law_choose, [], []⟩
def d_law_rows_of : He.DefD := ⟨("_law_rows_of", none), "_law_rows_of", "_law_rows_of", defArgs s_law_rows_of, defBody s_law_rows_of, defScope s_law_rows_of, [], []⟩
def d_law_right : He.DefD := ⟨("_law_right", none), "_law_right", "_law_right", defArgs s_law_right, defBody s_law_right, defScope s_law_right, [], []⟩
def d_law_great_right : He.DefD := ⟨("_law_great_right", none), "_law_great_right", "_law_great_right", defArgs s_law_great_right, defBody s_law_great_right, defScope s_law_great_right, [], []⟩
def d_law : He.DefD := ⟨("law", none), "law", "law", defArgs s_law, defBody s_law, defScope s_law, [], []⟩
def fnL : List He.DefD := [d_is_whole, d_is_from, d_row_in, d_count_in, d_require_part, d_require_weight, d_box_count, d_box_row, d_law_dice, d_law_roll, d_law_pick, d_law_choose, d_law_rows_of, d_law_right, d_law_great_right, d_law]
def faL : List He.Fa := [.glo "is_whole", .glo "is_from", .glo "row_in", .glo "count_in", .glo "require_part", .glo "require_weight", .glo "box_count", .glo "box_row", .glo "_law_dice", .glo "_law_roll", .glo "_law_pick", .glo "_law_choose", .glo "_law_rows_of", .glo "_law_right", .glo "_law_great_right", .glo "law", .free "abs", .free "bool", .free "int", .free "isinstance", .free "len", .free "max", .free "min", .free "range", .free "sum", .free "tuple", .int "MAX_PARTS" 40, .int "MAX_WEIGHT" 1600]
theorem facts_of {K : PySem.W.Frag} {h : Heap} {mg : Str → Option Value} (X : K.In h) (G : h.Ns mainGlobals mg) (c : He.SaysD faL fnL K) : Nonempty (Facts K mg) := by
  obtain ⟨fd_is_whole, F_is_whole⟩ := c.def_ 0 (d := d_is_whole) rfl
  obtain ⟨fd_is_from, F_is_from⟩ := c.def_ 1 (d := d_is_from) rfl
  obtain ⟨fd_row_in, F_row_in⟩ := c.def_ 2 (d := d_row_in) rfl
  obtain ⟨fd_count_in, F_count_in⟩ := c.def_ 3 (d := d_count_in) rfl
  obtain ⟨fd_require_part, F_require_part⟩ := c.def_ 4 (d := d_require_part) rfl
  obtain ⟨fd_require_weight, F_require_weight⟩ := c.def_ 5 (d := d_require_weight) rfl
  obtain ⟨fd_box_count, F_box_count⟩ := c.def_ 6 (d := d_box_count) rfl
  obtain ⟨fd_box_row, F_box_row⟩ := c.def_ 7 (d := d_box_row) rfl
  obtain ⟨fd_law_dice, F_law_dice⟩ := c.def_ 8 (d := d_law_dice) rfl
  obtain ⟨fd_law_roll, F_law_roll⟩ := c.def_ 9 (d := d_law_roll) rfl
  obtain ⟨fd_law_pick, F_law_pick⟩ := c.def_ 10 (d := d_law_pick) rfl
  obtain ⟨fd_law_choose, F_law_choose⟩ := c.def_ 11 (d := d_law_choose) rfl
  obtain ⟨fd_law_rows_of, F_law_rows_of⟩ := c.def_ 12 (d := d_law_rows_of) rfl
  obtain ⟨fd_law_right, F_law_right⟩ := c.def_ 13 (d := d_law_right) rfl
  obtain ⟨fd_law_great_right, F_law_great_right⟩ := c.def_ 14 (d := d_law_great_right) rfl
  obtain ⟨fd_law, F_law⟩ := c.def_ 15 (d := d_law) rfl
  exact ⟨{ f_is_whole := _, fd_is_whole := _, F_is_whole := F_is_whole, g_is_whole := He.glo_ok X G (c.fact 0 (f := .glo "is_whole") rfl), b_is_whole := (F_is_whole.bindsN fun _ _ _ _ _ _ us hl => match us, hl with | [_], _ => rfl), f_is_from := _, fd_is_from := _, F_is_from := F_is_from, g_is_from := He.glo_ok X G (c.fact 1 (f := .glo "is_from") rfl), b_is_from := (F_is_from.bindsN fun _ _ _ _ _ _ us hl => match us, hl with | [_, _, _], _ => rfl), f_row_in := _, fd_row_in := _, F_row_in := F_row_in, g_row_in := He.glo_ok X G (c.fact 2 (f := .glo "row_in") rfl), b_row_in := (F_row_in.bindsN fun _ _ _ _ _ _ us hl => match us, hl with | [_, _], _ => rfl), f_count_in := _, fd_count_in := _, F_count_in := F_count_in, g_count_in := He.glo_ok X G (c.fact 3 (f := .glo "count_in") rfl), b_count_in := (F_count_in.bindsN fun _ _ _ _ _ _ us hl => match us, hl with | [_, _], _ => rfl), f_require_part := _, fd_require_part := _, F_require_part := F_require_part, g_require_part := He.glo_ok X G (c.fact 4 (f := .glo "require_part") rfl), b_require_part := (F_require_part.bindsN fun _ _ _ _ _ _ us hl => match us, hl with | [_], _ => rfl), f_require_weight := _, fd_require_weight := _, F_require_weight := F_require_weight, g_require_weight := He.glo_ok X G (c.fact 5 (f := .glo "require_weight") rfl), b_require_weight := (F_require_weight.bindsN fun _ _ _ _ _ _ us hl => match us, hl with | [_], _ => rfl), f_box_count := _, fd_box_count := _, F_box_count := F_box_count, g_box_count := He.glo_ok X G (c.fact 6 (f := .glo "box_count") rfl), b_box_count := (F_box_count.bindsN fun _ _ _ _ _ _ us hl => match us, hl with | [_, _, _], _ => rfl), f_box_row := _, fd_box_row := _, F_box_row := F_box_row, g_box_row := He.glo_ok X G (c.fact 7 (f := .glo "box_row") rfl), b_box_row := (F_box_row.bindsN fun _ _ _ _ _ _ us hl => match us, hl with | [_, _], _ => rfl), f_law_dice := _, fd_law_dice := _, F_law_dice := F_law_dice, g_law_dice := He.glo_ok X G (c.fact 8 (f := .glo "_law_dice") rfl), b_law_dice := (F_law_dice.bindsN fun _ _ _ _ _ _ us hl => match us, hl with | [_, _], _ => rfl), f_law_roll := _, fd_law_roll := _, F_law_roll := F_law_roll, g_law_roll := He.glo_ok X G (c.fact 9 (f := .glo "_law_roll") rfl), b_law_roll := (F_law_roll.bindsN fun _ _ _ _ _ _ us hl => match us, hl with | [_, _], _ => rfl), f_law_pick := _, fd_law_pick := _, F_law_pick := F_law_pick, g_law_pick := He.glo_ok X G (c.fact 10 (f := .glo "_law_pick") rfl), b_law_pick := (F_law_pick.bindsN fun _ _ _ _ _ _ us hl => match us, hl with | [_, _], _ => rfl), f_law_choose := _, fd_law_choose := _, F_law_choose := F_law_choose, g_law_choose := He.glo_ok X G (c.fact 11 (f := .glo "_law_choose") rfl), b_law_choose := (F_law_choose.bindsN fun _ _ _ _ _ _ us hl => match us, hl with | [_, _], _ => rfl), f_law_rows_of := _, fd_law_rows_of := _, F_law_rows_of := F_law_rows_of, g_law_rows_of := He.glo_ok X G (c.fact 12 (f := .glo "_law_rows_of") rfl), b_law_rows_of := (F_law_rows_of.bindsN fun _ _ _ _ _ _ us hl => match us, hl with | [_, _], _ => rfl), f_law_right := _, fd_law_right := _, F_law_right := F_law_right, g_law_right := He.glo_ok X G (c.fact 13 (f := .glo "_law_right") rfl), b_law_right := (F_law_right.bindsN fun _ _ _ _ _ _ us hl => match us, hl with | [_], _ => rfl), f_law_great_right := _, fd_law_great_right := _, F_law_great_right := F_law_great_right, g_law_great_right := He.glo_ok X G (c.fact 14 (f := .glo "_law_great_right") rfl), b_law_great_right := (F_law_great_right.bindsN fun _ _ _ _ _ _ us hl => match us, hl with | [_], _ => rfl), f_law := _, fd_law := _, F_law := F_law, g_law := He.glo_ok X G (c.fact 15 (f := .glo "law") rfl), b_law := (F_law.bindsN fun _ _ _ _ _ _ us hl => match us, hl with | [_], _ => rfl), z_abs := He.free_ok X G (c.fact 16 (f := .free "abs") rfl), z_bool := He.free_ok X G (c.fact 17 (f := .free "bool") rfl), z_int := He.free_ok X G (c.fact 18 (f := .free "int") rfl), z_isinstance := He.free_ok X G (c.fact 19 (f := .free "isinstance") rfl), z_len := He.free_ok X G (c.fact 20 (f := .free "len") rfl), z_max := He.free_ok X G (c.fact 21 (f := .free "max") rfl), z_min := He.free_ok X G (c.fact 22 (f := .free "min") rfl), z_range := He.free_ok X G (c.fact 23 (f := .free "range") rfl), z_sum := He.free_ok X G (c.fact 24 (f := .free "sum") rfl), z_tuple := He.free_ok X G (c.fact 25 (f := .free "tuple") rfl), c_MAX_PARTS := He.int_ok X G (c.fact 26 (f := .int "MAX_PARTS" 40) rfl), c_MAX_WEIGHT := He.int_ok X G (c.fact 27 (f := .int "MAX_WEIGHT" 1600) rfl) }⟩

end K26

set_option Elab.async false
set_option linter.all false
set_option maxRecDepth 100000
set_option maxHeartbeats 4000000
namespace K26
open PySem PySem.Spec PyProof.Rows L2
theorem same_upd0 {H : Hp} {p : Addr} {o : HO} (h : H p = none) : Same H (upd H p o) := fun b x e => by
  rw [upd_ne (ne_of_none e h)]
  exact e
theorem hu64 {k : Nat} {A : Around} (hr : Room k A) : A.units + 64 < cLine := hr.units
section
variable {P : Program} {w : World} {K : PySem.W.Frag} {mg : Str → Option Value} {base : Heap}
def spWhole : Sp := fun vs H Q _ => ∃ n : Int, vs = [.int n] ∧ Q (.bl true) H
theorem ok_is_whole (T : Facts K mg) : FnOk P w K mg base CX0 1 T.f_is_whole T.fd_is_whole ["value"] spWhole := by
  refine T.F_is_whole.ok sc_is_whole (fun vs H Q E h => ?_) (fun cdv A outer s H vs Q E hr h => ?_)
  · obtain ⟨n, rfl, _⟩ := h
    rfl
  · obtain ⟨n, rfl, q⟩ := h
    refine ⟨_, (PSs.nox (pss_one (ps_ret (pe_and (pe_callB call_isi (by rfl) T.z_isinstance (by decide +kernel) (pa_cons (pv 0) (pa_cons (pe_bltn (v := .ty "int") (by rfl) T.z_int (by decide +kernel) rfl) pa_nil))) (pe_one (pe_not (pe_callB call_isi (by rfl) T.z_isinstance (by decide +kernel) (pa_cons (pv 0) (pa_cons (pe_bltn (v := .ty "bool") (by rfl) T.z_bool (by decide +kernel) rfl) pa_nil))))))))), ?_⟩
    refine ⟨.int n, rfl, .int n, .ty "int", .type "int", .type "int", true, rfl, .ty "int", .base (.int n), kit_ty (by decide +kernel), true, rfl, iteT ?_⟩
    exact ⟨.int n, rfl, .int n, .ty "bool", .type "int", .type "bool", false, rfl, .ty "bool", .base (.int n), kit_ty (by decide +kernel), false, rfl, q⟩
def spFrom : Sp := fun vs H Q _ => ∃ n l m : Int, vs = [.int n, .int l, .int m] ∧ l ≤ n ∧ n ≤ m ∧ Q (.bl true) H
theorem ok_is_from (T : Facts K mg) : FnOk P w K mg base CX0 2 T.f_is_from T.fd_is_from ["value", "least", "most"] spFrom := by
  have G_is_whole : FnOk P w K mg base CX0 1 T.f_is_whole T.fd_is_whole ["value"] spWhole := ok_is_whole T
  refine T.F_is_from.ok sc_is_from (fun vs H Q E h => ?_) (fun cdv A outer s H vs Q E hr h => ?_)
  · obtain ⟨n, l, m, rfl, _⟩ := h
    rfl
  · obtain ⟨n, l, m, rfl, h1, h2, q⟩ := h
    refine ⟨_, (PSs.nox (pss_one (ps_ret (pe_and (pe_call G_is_whole hr (by rfl) T.g_is_whole T.F_is_whole.kp T.b_is_whole .nil pass0 (pa_cons (pv 0) pa_nil)) (pe_one (pe_chain op_le op_le (pv 1) (pv 0) (pv 2))))))), ?_⟩
    refine ⟨.int n, rfl, n, rfl, true, rfl, iteT ?_⟩
    refine ⟨.int l, rfl, .int n, rfl, l, n, rfl, rfl, decide (l ≤ n), rfl, ?_⟩
    rw [decide_eq_true h1]
    refine iteT ⟨.int m, rfl, n, m, rfl, rfl, ?_⟩
    show Q (.bl (decide (n ≤ m))) H
    rw [decide_eq_true h2]
    exact q
def spReq (top : Int) : Sp := fun vs H Q _ => ∃ n : Int, vs = [.int n] ∧ 0 ≤ n ∧ n ≤ top ∧ Q .non H
theorem ok_require_part (T : Facts K mg) : FnOk P w K mg base CX0 3 T.f_require_part T.fd_require_part ["value"] (spReq 40) := by
  have G_is_from : FnOk P w K mg base CX0 2 T.f_is_from T.fd_is_from ["value", "least", "most"] spFrom := ok_is_from T
  refine T.F_require_part.ok sc_require_part (fun vs H Q E h => ?_) (fun cdv A outer s H vs Q E hr h => ?_)
  · obtain ⟨n, rfl, _⟩ := h
    rfl
  · obtain ⟨n, rfl, h1, h2, q⟩ := h
    refine ⟨_, (PSs.nox (pss_one (ps_if (pt_not (pt_val (pe_call G_is_from hr (by rfl) T.g_is_from T.F_is_from.kp T.b_is_from .nil pass0 (pa_cons (pv 0) (pa_cons pe_int (pa_cons (pe_glob (v := .int 40) (by rfl) T.c_MAX_PARTS.choose_spec ⟨_, rfl⟩) pa_nil))))))
      (pss_one ps_never)
      pss_nil))), ?_⟩
    exact ⟨.int n, rfl, n, 0, 40, rfl, h1, h2, true, rfl, iteF q⟩
theorem ok_require_weight (T : Facts K mg) : FnOk P w K mg base CX0 3 T.f_require_weight T.fd_require_weight ["value"] (spReq 1600) := by
  have G_is_from : FnOk P w K mg base CX0 2 T.f_is_from T.fd_is_from ["value", "least", "most"] spFrom := ok_is_from T
  refine T.F_require_weight.ok sc_require_weight (fun vs H Q E h => ?_) (fun cdv A outer s H vs Q E hr h => ?_)
  · obtain ⟨n, rfl, _⟩ := h
    rfl
  · obtain ⟨n, rfl, h1, h2, q⟩ := h
    refine ⟨_, (PSs.nox (pss_one (ps_if (pt_not (pt_val (pe_call G_is_from hr (by rfl) T.g_is_from T.F_is_from.kp T.b_is_from .nil pass0 (pa_cons (pv 0) (pa_cons pe_int (pa_cons (pe_glob (v := .int 1600) (by rfl) T.c_MAX_WEIGHT.choose_spec ⟨_, rfl⟩) pa_nil))))))
      (pss_one ps_never)
      pss_nil))), ?_⟩
    exact ⟨.int n, rfl, n, 0, 1600, rfl, h1, h2, true, rfl, iteF q⟩
def spCount (K : PySem.W.Frag) : Sp := fun vs H Q _ => ∃ (n : Int) (a : Addr) (xs : List Int), vs = [.int n, .ref a] ∧ SqL K H a (xs.map V.int) ∧ Q (.int (if 0 ≤ n ∧ n < xs.length then xs.getD n.toNat 0 else 0)) H
theorem ok_count_in (T : Facts K mg) : FnOk P w K mg base CX0 1 T.f_count_in T.fd_count_in ["weight", "row"] (spCount K) := by
  refine T.F_count_in.ok sc_count_in (fun vs H Q E h => ?_) (fun cdv A outer s H vs Q E hr h => ?_)
  · obtain ⟨n, a, xs, rfl, _⟩ := h
    rfl
  · obtain ⟨n, a, xs, rfl, hS, q⟩ := h
    refine ⟨_, (PSs.nox (pss_one (ps_ret (pe_ifExp (pt_chain op_le op_lt pe_int (pv 0) (pe_callB call_len_seq (by rfl) T.z_len (by decide +kernel) (pa_cons (pv 1) pa_nil))) (pe_ix ix_list (pv 1) (pv 0) (fun _ _ => rfl)) pe_int)))), ?_⟩
    refine ⟨.int n, rfl, 0, n, rfl, rfl, decide (0 ≤ n), rfl, ?_⟩
    by_cases h0 : 0 ≤ n
    · rw [decide_eq_true h0]
      refine iteT ⟨.ref a, rfl, a, xs.map V.int, rfl, .inl hS, n, ((xs.map V.int).length : Int), rfl, rfl, _, rfl, ?_⟩
      rw [List.length_map]
      by_cases h1 : n < (xs.length : Int)
      · rw [decide_eq_true h1]
        obtain ⟨j, rfl⟩ := Int.eq_ofNat_of_zero_le h0
        have hj : j < xs.length := by omega
        refine iteT ⟨.ref a, rfl, .int j, rfl, a, xs.map V.int, j, .int xs[j], rfl, rfl, hS, atI_nat (by rw [List.getElem?_map, List.getElem?_eq_getElem hj]; rfl), ?_⟩
        rw [if_pos ⟨h0, h1⟩] at q
        rw [show ((j : Int)).toNat = j from rfl, List.getD_eq_getElem?_getD, List.getElem?_eq_getElem hj] at q
        exact q
      · rw [decide_eq_false h1]
        rw [if_neg (fun z => h1 z.2)] at q
        exact iteF q
    · rw [decide_eq_false h0]
      rw [if_neg (fun z => h0 z.1)] at q
      refine iteF ⟨false, rfl, iteF q⟩
end
end K26

set_option autoImplicit false
namespace K26
/-- the number of the boxes of the weight k with at most p members, each at most m -/
def G : Nat → Nat → Int → Int
  | 0, _, k => if k = 0 then 1 else 0
  | _ + 1, 0, k => if k = 0 then 1 else 0
  | p + 1, m + 1, k => G p (m + 1) k + G (p + 1) m (k - (p + 1 : Nat))
theorem G_0 (m : Nat) (k : Int) : G 0 m k = if k = 0 then 1 else 0 := by rw [G]
theorem G_p0 (p : Nat) (k : Int) : G p 0 k = if k = 0 then 1 else 0 := by cases p <;> rw [G]
theorem G_A (p m : Nat) (k : Int) : G (p + 1) (m + 1) k = G p (m + 1) k + G (p + 1) m (k - (p + 1 : Nat)) := by rw [G]
theorem G_neg : ∀ (p m : Nat) (k : Int), k < 0 → G p m k = 0
  | 0, m, k, h => by rw [G_0, if_neg (by omega)]
  | p + 1, 0, k, h => by rw [G_p0, if_neg (by omega)]
  | p + 1, m + 1, k, h => by rw [G_A, G_neg p (m + 1) k h, G_neg (p + 1) m _ (by omega)]; rfl
theorem G_nonneg : ∀ (p m : Nat) (k : Int), 0 ≤ G p m k
  | 0, m, k => by rw [G_0]; split <;> decide
  | p + 1, 0, k => by rw [G_p0]; split <;> decide
  | p + 1, m + 1, k => by
    have h1 := G_nonneg p (m + 1) k
    have h2 := G_nonneg (p + 1) m (k - (p + 1 : Nat))
    rw [G_A]; omega
theorem G_le : ∀ (p m : Nat) (k : Int), G p m k ≤ 2 ^ (p + m)
  | 0, m, k => by
    have h : (1 : Int) ≤ 2 ^ (0 + m) := by
      have := Nat.one_le_two_pow (n := 0 + m)
      exact_mod_cast this
    rw [G_0]; split <;> omega
  | p + 1, 0, k => by
    have h : (1 : Int) ≤ 2 ^ (p + 1 + 0) := by
      have := Nat.one_le_two_pow (n := p + 1 + 0)
      exact_mod_cast this
    rw [G_p0]; split <;> omega
  | p + 1, m + 1, k => by
    have h1 := G_le p (m + 1) k
    have h2 := G_le (p + 1) m (k - (p + 1 : Nat))
    have e : (2 : Int) ^ (p + 1 + (m + 1)) = 2 ^ (p + (m + 1)) + 2 ^ (p + 1 + m) := by
      rw [show p + 1 + (m + 1) = (p + m + 1) + 1 by omega, show p + (m + 1) = p + m + 1 by omega, show p + 1 + m = p + m + 1 by omega, Int.pow_succ]
      omega
    rw [G_A, e]; omega
theorem mul11 (p m : Nat) : ((p + 1) * (m + 1) : Nat) = p * (m + 1) + (m + 1) := Nat.succ_mul p (m + 1)
theorem mul12 (p m : Nat) : ((p + 1) * (m + 1) : Nat) = (p + 1) * m + (p + 1) := Nat.mul_succ (p + 1) m
theorem G_sup : ∀ (p m : Nat) (k : Int), ((p * m : Nat) : Int) < k → G p m k = 0
  | 0, m, k, h => by rw [G_0, if_neg (by omega)]
  | p + 1, 0, k, h => by rw [G_p0, if_neg (by omega)]
  | p + 1, m + 1, k, h => by
    have e1 := mul11 p m
    have e2 := mul12 p m
    rw [G_A, G_sup p (m + 1) k (by omega), G_sup (p + 1) m _ (by omega)]; rfl
theorem G_B : ∀ (p m : Nat) (k : Int), G (p + 1) (m + 1) k = G p (m + 1) (k - (m + 1 : Nat)) + G (p + 1) m k
  | 0, 0, k => by
    rw [G_A, G_0, G_0, G_p0, G_p0]
    simp only [Nat.zero_add]
    omega
  | 0, m + 1, k => by
    rw [G_A, G_B 0 m, G_0, G_0, G_0]
    have e := G_A 0 m k
    rw [G_0] at e
    rw [e, show k - ((0 + 1 : Nat) : Int) - ((m + 1 : Nat) : Int) = k - ((m + 1 + 1 : Nat) : Int) by omega]
    omega
  | p + 1, 0, k => by
    rw [G_A, G_B p 0, G_p0, G_p0, G_p0]
    have e := G_A p 0 (k - ((0 + 1 : Nat) : Int))
    rw [G_p0] at e
    rw [e, show k - ((0 + 1 : Nat) : Int) - ((p + 1 : Nat) : Int) = k - ((p + 1 + 1 : Nat) : Int) by omega]
    omega
  | p + 1, m + 1, k => by
    rw [G_A, G_B p (m + 1), G_B (p + 1) m]
    have e1 := G_A p (m + 1) (k - ((m + 1 + 1 : Nat) : Int))
    have e2 := G_A (p + 1) m k
    rw [e1, e2, show k - ((m + 1 + 1 : Nat) : Int) - ((p + 1 : Nat) : Int) = k - ((p + 1 + 1 : Nat) : Int) - ((m + 1 : Nat) : Int) by omega]
    omega
theorem G_sym : ∀ (p m : Nat) (k : Int), G p m k = G m p k
  | 0, m, k => by rw [G_0, G_p0]
  | p + 1, 0, k => by rw [G_0, G_p0]
  | p + 1, m + 1, k => by
    rw [G_A, G_B m p, G_sym p (m + 1) k, G_sym (p + 1) m]
    omega
theorem G_rev : ∀ (p m : Nat) (k : Int), G p m (((p * m : Nat) : Int) - k) = G p m k
  | 0, m, k => by
    rw [G_0, G_0, Nat.zero_mul]
    simp only [Int.natCast_zero, Int.zero_sub]
    by_cases h : k = 0
    · subst h; rfl
    · rw [if_neg h, if_neg (by omega)]
  | p + 1, 0, k => by
    rw [G_p0, G_p0, Nat.mul_zero]
    simp only [Int.natCast_zero, Int.zero_sub]
    by_cases h : k = 0
    · subst h; rfl
    · rw [if_neg h, if_neg (by omega)]
  | p + 1, m + 1, k => by
    have e1 := mul11 p m
    have e2 := mul12 p m
    rw [G_B, G_A p m k, ← G_rev p (m + 1) k, ← G_rev (p + 1) m (k - (p + 1 : Nat))]
    rw [show (((p + 1) * (m + 1) : Nat) : Int) - k - ((m + 1 : Nat) : Int) = ((p * (m + 1) : Nat) : Int) - k by omega]
    rw [show (((p + 1) * (m + 1) : Nat) : Int) - k = (((p + 1) * m : Nat) : Int) - (k - ((p + 1 : Nat) : Int)) by omega]
/-- what the program's loops do -/
theorem G_key : ∀ (p m : Nat) (k : Int), G (p + 1) m k - G (p + 1) m (k - (p + 1 : Nat)) = G p m k - G p m (k - (m + (p + 1) : Nat))
  | p, 0, k => by
    rw [G_p0, G_p0, G_p0, G_p0, show (0 + (p + 1) : Nat) = p + 1 by omega]
  | p, m + 1, k => by
    have e := G_B p m (k - ((p + 1 : Nat) : Int))
    rw [e, G_A, show k - ((p + 1 : Nat) : Int) - ((m + 1 : Nat) : Int) = k - ((m + 1 + (p + 1) : Nat) : Int) by omega]
    omega
end K26

set_option Elab.async false
set_option linter.all false
set_option maxRecDepth 100000
set_option maxHeartbeats 4000000
namespace K26
open PySem PySem.Spec PyProof.Rows L2
section
variable {P : Program} {w : World} {K : PySem.W.Frag} {mg : Str → Option Value} {base : Heap}
theorem cp16 : CPow 10 16 := ⟨by decide, by decide, by decide⟩
theorem cp60 : CPow 10 60 := ⟨by decide, by decide, by decide⟩
theorem cw60 : CMulW (10 ^ Int.toNat 60) (10 ^ Int.toNat 60) := by
  unfold CMulW
  decide +kernel
theorem pos60 : (0 : Int) < 10 ^ Int.toNat 60 * 10 ^ Int.toNat 60 := by decide +kernel
theorem pos_m : (0 : Int) < 1152921504606846697 := by decide
theorem sz3 : 3 ≤ sizeLine := by decide
/-- the dice's three ints -/
abbrev dice (x y z : Int) : HO := .lst [.int x, .int y, .int z]
def spDice (K : PySem.W.Frag) : Sp := fun vs H Q _ => ∃ (a : Addr) (ns : List Int) (k : Nat), vs = [.ref a, .int k] ∧ SqL K H a (ns.map V.int) ∧ ∀ p x y z, H p = none → Q (.ref p) (upd H p (dice x y z))
theorem ok_law_dice (T : Facts K mg) : FnOk P w K mg base CX0 1 T.f_law_dice T.fd_law_dice ["_law_script", "_law_spot"] (spDice K) := by
  refine T.F_law_dice.ok sc_law_dice (fun vs H Q E h => ?_) (fun cdv A outer s H vs Q E hr h => ?_)
  · obtain ⟨a, ns, k, rfl, _⟩ := h
    rfl
  · obtain ⟨a, ns, k, rfl, hS, q⟩ := h
    refine ⟨_, (PSs.nox (pss_cons (ps_set (i := 2) sc_law_dice.nd rfl (.inl rfl) (pe_ifExp (pt_cmpR op_lt (pv 1) (pe_callB call_len_seq (by rfl) T.z_len (by decide +kernel) (pa_cons (pv 0) pa_nil)) (nomark _)) (pe_callTy call_int1 (by rfl) T.z_int (by decide +kernel) (pa_cons (pe_ix ix_list (pv 0) (pv 1) (fun _ _ => rfl)) pa_nil)) (pe_op op_add (pe_op op_mul pe_int (pv 1)) pe_int)))
    (pss_cons (ps_set (i := 3) sc_law_dice.nd rfl (.inl rfl) (pe_op op_mod (pe_callB (call_max2 (by rfl)) (by rfl) T.z_max (by decide +kernel) (pa_cons pe_int (pa_cons (pe_op op_sub (pe_callB call_abs (by rfl) T.z_abs (by decide +kernel) (pa_cons (pv 2) pa_nil)) (pe_op op_pow pe_int pe_int)) pa_nil))) (pe_op op_mulW (pe_op op_pow pe_int pe_int) (pe_op op_pow pe_int pe_int))))
    (pss_one (ps_ret (pe_lst (pa_cons (pv 3) (pa_cons (pe_op op_add (pe_op op_add (pe_op op_add (pe_op op_mul (pe_op op_mod (pe_callB call_abs (by rfl) T.z_abs (by decide +kernel) (pa_cons (pv 2) pa_nil)) pe_int) pe_int) (pe_op op_mul pe_int (pv 1))) (pe_op op_mul pe_int (pe_callTy call_int1 (by rfl) T.z_int (by decide +kernel) (pa_cons (pe_cmpR op_lt (pv 2) pe_int (nomark _)) pa_nil)))) pe_int) (pa_cons pe_int pa_nil))))))))), ?_⟩
    refine ⟨.int k, rfl, .ref a, rfl, a, ns.map V.int, rfl, .inl hS, k, _, rfl, rfl, _, rfl, ?_⟩
    rw [List.length_map]
    by_cases h1 : (k : Int) < (ns.length : Int)
    · rw [decide_eq_true h1]
      have hj : k < ns.length := by omega
      refine iteT ⟨.ref a, rfl, .int k, rfl, a, ns.map V.int, k, .int ns[k], rfl, rfl, hS, atI_nat (by rw [List.getElem?_map, List.getElem?_eq_getElem hj]; rfl), .inl ⟨_, rfl, ?_⟩⟩
      refine ⟨.int ns[k], rfl, _, rfl, 10, 16, rfl, rfl, cp16, _, _, rfl, rfl, 0, _, rfl, 10, 60, rfl, rfl, cp60, 10, 60, rfl, rfl, cp60, _, _, rfl, rfl, cw60, _, _, rfl, rfl, pos60, ?_⟩
      refine ⟨_, rfl, .int ns[k], rfl, _, rfl, _, _, rfl, rfl, pos_m, _, _, rfl, rfl, .inr ⟨by decide, by decide⟩, .int k, rfl, _, _, rfl, rfl, .inl ⟨by decide, by decide⟩, _, _, rfl, rfl, .int ns[k], rfl, _, _, rfl, rfl, .inr ⟨_, rfl, _, _, rfl, rfl, .inl ⟨by decide, by decide⟩, _, _, rfl, rfl, _, _, rfl, rfl, ?_⟩⟩
      exact ⟨sz3, fun p hp => q p _ _ _ hp⟩
    · rw [decide_eq_false h1]
      refine iteF ⟨.int k, rfl, _, _, rfl, rfl, .inl ⟨by decide, by decide⟩, _, _, rfl, rfl, ?_⟩
      refine ⟨_, rfl, _, rfl, 10, 16, rfl, rfl, cp16, _, _, rfl, rfl, 0, _, rfl, 10, 60, rfl, rfl, cp60, 10, 60, rfl, rfl, cp60, _, _, rfl, rfl, cw60, _, _, rfl, rfl, pos60, ?_⟩
      refine ⟨_, rfl, _, rfl, _, rfl, _, _, rfl, rfl, pos_m, _, _, rfl, rfl, .inr ⟨by decide, by decide⟩, .int k, rfl, _, _, rfl, rfl, .inl ⟨by decide, by decide⟩, _, _, rfl, rfl, _, rfl, _, _, rfl, rfl, .inr ⟨_, rfl, _, _, rfl, rfl, .inl ⟨by decide, by decide⟩, _, _, rfl, rfl, _, _, rfl, rfl, ?_⟩⟩
      exact ⟨sz3, fun p hp => q p _ _ _ hp⟩
def spRoll : Sp := fun vs H Q _ => ∃ (a : Addr) (x y z n : Int), vs = [.ref a, .int n] ∧ H a = some (dice x y z) ∧ 0 < n ∧ n < 1073741824 ∧ ∀ r x' z', 0 ≤ r → r < n → Q (.int r) (upd H a (dice x' y z'))
theorem ok_law_roll (T : Facts K mg) : FnOk P w K mg base CX0 1 T.f_law_roll T.fd_law_roll ["_law_dice_here", "_law_total"] spRoll := by
  refine T.F_law_roll.ok sc_law_roll (fun vs H Q E h => ?_) (fun cdv A outer s H vs Q E hr h => ?_)
  · obtain ⟨a, x, y, z, n, rfl, _⟩ := h
    rfl
  · obtain ⟨a, x, y, z, n, rfl, hd, h0, h1, q⟩ := h
    have hS : SqL K H a [.int x, .int y, .int z] := SqL.of hd
    refine ⟨_, (PSs.nox (pss_cons (ps_if (pt_cmpR op_gt (pe_ix ix_list (pv 0) pe_int (fun _ _ => rfl)) pe_int (nomark _))
      (pss_cons (ps_set (i := 2) sc_law_roll.nd rfl (.inl rfl) (pe_op op_mod (pe_callTy call_int1 (by rfl) T.z_int (by decide +kernel) (pa_cons (pe_ix ix_list (pv 0) pe_int (fun _ _ => rfl)) pa_nil)) (pv 1)))
      (pss_cons (ps_asg (pe_op op_fdiv (pe_ix ix_list (pv 0) pe_int (fun _ _ => rfl)) (pv 1)) (pg_sub (pv 0) pe_int set_list))
      (pss_one (ps_ret (pv 2)))))
      pss_nil)
    (pss_cons (ps_asg (pe_op op_add (pe_ix ix_list (pv 0) pe_int (fun _ _ => rfl)) pe_int) (pg_sub (pv 0) pe_int set_list))
    (pss_cons (ps_set (i := 3) sc_law_roll.nd rfl (.inl rfl) (pe_op op_mod (pe_callTy call_int1 (by rfl) T.z_int (by decide +kernel) (pa_cons (pe_op op_add (pe_ix ix_list (pv 0) pe_int (fun _ _ => rfl)) (pe_op op_mul pe_int (pe_ix ix_list (pv 0) pe_int (fun _ _ => rfl)))) pa_nil)) pe_int))
    (pss_cons (ps_set (i := 4) sc_law_roll.nd rfl (.inl rfl) (pe_op op_add (pe_op op_mul (pe_op op_mod (pe_callTy call_int1 (by rfl) T.z_int (by decide +kernel) (pa_cons (pe_op op_add (pe_op op_mul (pv 3) (pv 3)) (pe_op op_mul pe_int (pe_ix ix_list (pv 0) pe_int (fun _ _ => rfl)))) pa_nil)) pe_int) pe_int) (pv 3)))
    (pss_one (ps_ret (pe_op op_mod (pe_callTy call_int1 (by rfl) T.z_int (by decide +kernel) (pa_cons (pe_op op_fdiv (pv 4) pe_int) pa_nil)) (pv 1))))))))), ?_⟩
    refine ⟨.ref a, rfl, a, _, 0, .int x, rfl, rfl, hS, atI_nat (j := 0) rfl, x, 0, rfl, rfl, decide (0 < x), rfl, ite2 (fun _ => ?_) (fun _ => ?_)⟩
    · refine ⟨.ref a, rfl, a, _, 0, .int x, rfl, rfl, hS, atI_nat (j := 0) rfl, .inl ⟨x, rfl, .int n, rfl, x, n, rfl, rfl, h0, ?_⟩⟩
      refine ⟨.ref a, rfl, a, _, 0, .int x, rfl, rfl, hS, atI_nat (j := 0) rfl, .int n, rfl, x, n, rfl, rfl, ⟨h0, h1⟩, ?_⟩
      refine ⟨.ref a, rfl, a, _, 0, 0, rfl, rfl, hd, rfl, ?_⟩
      exact ⟨_, rfl, q (x % n) (x / n) z (Int.emod_nonneg _ (by omega)) (Int.emod_lt_of_pos _ h0)⟩
    · refine ⟨.ref a, rfl, a, _, 2, .int z, rfl, rfl, hS, atI_nat (j := 2) rfl, z, 1, rfl, rfl, ?_⟩
      refine ⟨.ref a, rfl, a, _, 2, 2, rfl, rfl, hd, rfl, ?_⟩
      have hd' : (upd H a (dice x y (z + 1))) a = some (dice x y (z + 1)) := upd_same
      have hS' : SqL K (upd H a (dice x y (z + 1))) a [.int x, .int y, .int (z + 1)] := SqL.of hd'
      refine ⟨.ref a, rfl, a, _, 1, .int y, rfl, rfl, hS', atI_nat (j := 1) rfl, .ref a, rfl, a, _, 2, .int (z + 1), rfl, rfl, hS', atI_nat (j := 2) rfl, _, _, rfl, rfl, .inl ⟨by decide, by decide⟩, _, _, rfl, rfl, .inl ⟨_, rfl, _, _, rfl, rfl, (by decide : (0 : Int) < 2305843009213691579), ?_⟩⟩
      have b0 := Int.emod_nonneg (y + 92821991 * (z + 1)) (show (2305843009213691579 : Int) ≠ 0 by decide)
      have b1 := Int.emod_lt_of_pos (y + 92821991 * (z + 1)) (show (0 : Int) < 2305843009213691579 by decide)
      refine ⟨_, rfl, _, rfl, _, _, rfl, rfl, .inl ⟨Int.lt_of_lt_of_le (by decide) b0, Int.lt_trans b1 (by decide)⟩, .ref a, rfl, a, _, 2, .int (z + 1), rfl, rfl, hS', atI_nat (j := 2) rfl, _, _, rfl, rfl, .inl ⟨by decide, by decide⟩, _, _, rfl, rfl, .inl ⟨_, rfl, _, _, rfl, rfl, (by decide : (0 : Int) < 2305843009213692227), _, _, rfl, rfl, .inr ⟨by decide, by decide⟩, _, rfl, _, _, rfl, rfl, ?_⟩⟩
      refine ⟨_, rfl, _, _, rfl, rfl, ⟨by decide, by decide⟩, .inl ⟨_, rfl, .int n, rfl, _, _, rfl, rfl, h0, ?_⟩⟩
      exact q _ x (z + 1) (Int.emod_nonneg _ (by omega)) (Int.emod_lt_of_pos _ h0)
def spPick (K : PySem.W.Frag) : Sp := fun vs H Q _ => ∃ (a b : Addr) (x y z : Int) (xs : List V), vs = [.ref a, .ref b] ∧ H a = some (dice x y z) ∧ H b = some (.lst xs) ∧ a ≠ b ∧ 0 < xs.length ∧ xs.length < 1000 ∧
  ∀ (i : Nat) v x' z', xs[i]? = some v → Q v (upd H a (dice x' y z'))
theorem ok_law_pick (T : Facts K mg) : FnOk P w K mg base CX0 2 T.f_law_pick T.fd_law_pick ["_law_dice_here", "_law_items"] (spPick K) := by
  have G_law_roll : FnOk P w K mg base CX0 1 T.f_law_roll T.fd_law_roll ["_law_dice_here", "_law_total"] spRoll := ok_law_roll T
  refine T.F_law_pick.ok sc_law_pick (fun vs H Q E h => ?_) (fun cdv A outer s H vs Q E hr h => ?_)
  · obtain ⟨a, b, x, y, z, xs, rfl, _⟩ := h
    rfl
  · obtain ⟨a, b, x, y, z, xs, rfl, hd, hb, hab, l0, l1, q⟩ := h
    refine ⟨_, (PSs.nox (pss_one (ps_ret (pe_ix ix_list (pv 1) (pe_call G_law_roll hr (by rfl) T.g_law_roll T.F_law_roll.kp T.b_law_roll .nil pass0 (pa_cons (pv 0) (pa_cons (pe_callB call_len_seq (by rfl) T.z_len (by decide +kernel) (pa_cons (pv 1) pa_nil)) pa_nil))) (fun _ _ => rfl))))), ?_⟩
    refine ⟨.ref b, rfl, .ref a, rfl, .ref b, rfl, b, xs, rfl, .inl (SqL.of hb), ?_⟩
    refine ⟨a, x, y, z, _, rfl, hd, (by omega : (0 : Int) < (xs.length : Int)), (by omega : (xs.length : Int) < 1073741824), fun r x' z' h1 h2 => ?_⟩
    obtain ⟨j, rfl⟩ := Int.eq_ofNat_of_zero_le h1
    have hj : j < xs.length := by omega
    exact ⟨b, xs, j, xs[j], rfl, rfl, SqL.of (by rw [upd_ne (Ne.symm hab)]; exact hb), atI_nat (List.getElem?_eq_getElem hj), q j _ x' z' (List.getElem?_eq_getElem hj)⟩
/-- the loop of _law_choose -/
def chooseL (n : Int) : Nat → Int
  | 0 => 1
  | k + 1 => chooseL n k * (n - k) / (k + 1)
def spChoose : Sp := fun vs H Q _ => ∃ (n : Int) (k : Nat), vs = [.int n, .int k] ∧ 0 ≤ n ∧ n < 1000 ∧ k < 1000 ∧ Q (.int (chooseL n k)) H
theorem ok_law_choose (T : Facts K mg) : FnOk P w K mg base CX0 1 T.f_law_choose T.fd_law_choose ["_law_many", "_law_few"] spChoose := by
  refine T.F_law_choose.ok sc_law_choose (fun vs H Q E h => ?_) (fun cdv A outer s H vs Q E hr h => ?_)
  · obtain ⟨n, k, rfl, _⟩ := h
    rfl
  · obtain ⟨n, k, rfl, h0, h1, h2, q⟩ := h
    refine ⟨_, (PSs.nox (pss_cons (ps_set (i := 2) sc_law_choose.nd rfl (.inl rfl) pe_int)
    (pss_cons (ps_for PassesOwn.never (by rfl) (pi_range1 (by rfl) T.z_range (pa_cons (pv 1) pa_nil)) (pg_name (i := 3) sc_law_choose.nd rfl (.inl rfl))
      (pss_one (ps_set (i := 2) sc_law_choose.nd rfl (.inl rfl) (pe_op op_fdiv (pe_op op_mul (pv 2) (pe_op op_sub (pv 0) (pv 3))) (pe_op op_add (pv 3) pe_int)))))
    (pss_one (ps_ret (pv 2)))))), ?_⟩
    refine ⟨.int k, rfl, _, rfl, (by omega), (by omega), for_range (n := k) (fun i σ H' => ∃ v3, σ = [some (.int n), some (.int k), some (.int (chooseL n i)), v3] ∧ H' = H) ⟨none, rfl, rfl⟩ (fun i σ H' hi hP => ?_) (fun σ H' hP => ?_)⟩
    · obtain ⟨v3, rfl, rfl⟩ := hP
      refine ⟨_, rfl, .int n, rfl, _, rfl, _, _, rfl, rfl, _, _, rfl, rfl, .inr ⟨by show -(2 ^ 64) < n - (0 + (i : Int)); omega, by show n - (0 + (i : Int)) < 2 ^ 64; omega⟩, _, rfl, _, _, rfl, rfl, _, _, rfl, rfl, ⟨by show 0 < 0 + (i : Int) + 1; omega, by show 0 + (i : Int) + 1 < 1073741824; omega⟩, ?_⟩
      refine ⟨some (.int (0 + i)), ?_, rfl⟩
      show [some (V.int n), some (V.int k), some (V.int (chooseL n i * (n - (0 + (i : Int))) / (0 + (i : Int) + 1))), some (V.int (0 + i))] = _
      rw [Int.zero_add]
      rfl
    · obtain ⟨v3, rfl, rfl⟩ := hP
      exact ⟨_, rfl, q⟩
end
end K26

set_option Elab.async false
set_option linter.all false
set_option maxRecDepth 100000
set_option maxHeartbeats 4000000
namespace K26
open PySem PySem.Spec PyProof.Rows L2 StX
/-! ### lists as tables of functions -/
def tab (L : Nat) (f : Nat → Int) : List V := (List.range L).map fun k => V.int (f k)
theorem tab_len (L : Nat) (f : Nat → Int) : (tab L f).length = L := by
  unfold tab
  rw [List.length_map, List.length_range]
theorem tab_get {L : Nat} {f : Nat → Int} {k : Nat} (h : k < L) : (tab L f)[k]? = some (.int (f k)) := by
  unfold tab
  rw [List.getElem?_map, List.getElem?_range h]
  rfl
theorem tab_ext {L : Nat} {f g : Nat → Int} (h : ∀ k, k < L → f k = g k) : tab L f = tab L g := by
  unfold tab
  exact List.map_congr_left fun k hk => by rw [h k (List.mem_range.mp hk)]
theorem tab_none {L : Nat} {f : Nat → Int} {k : Nat} (h : L ≤ k) : (tab L f)[k]? = none := List.getElem?_eq_none (by rw [tab_len]; exact h)
theorem tab_set {L : Nat} {f : Nat → Int} {j : Nat} {v : Int} : (tab L f).set j (.int v) = tab L (fun k => if k = j then v else f k) := by
  apply List.ext_getElem?
  intro k
  by_cases hk : k < L
  · rw [tab_get hk]
    by_cases e : k = j
    · subst e
      rw [List.getElem?_set_self (by rw [tab_len]; exact hk), if_pos rfl]
    · rw [List.getElem?_set_ne (Ne.symm e), tab_get hk, if_neg e]
  · rw [tab_none (Nat.le_of_not_lt hk), List.getElem?_eq_none (by rw [List.length_set, tab_len]; exact Nat.le_of_not_lt hk)]
theorem tab_app {a b : Nat} {f : Nat → Int} (h : ∀ k, a ≤ k → k < a + b → f k = 0) : tab a f ++ List.replicate b (V.int 0) = tab (a + b) f := by
  apply List.ext_getElem?
  intro k
  by_cases hk : k < a
  · rw [List.getElem?_append_left (by rw [tab_len]; exact hk), tab_get hk, tab_get (by omega)]
  · rw [List.getElem?_append_right (by rw [tab_len]; omega), tab_len]
    by_cases h2 : k < a + b
    · rw [tab_get h2, List.getElem?_replicate, if_pos (by omega), h k (by omega) h2]
    · rw [tab_none (by omega), List.getElem?_replicate, if_neg (by omega)]
theorem tab_take {L n : Nat} {f : Nat → Int} (h : n ≤ L) : cutV (tab L f) none (some (n : Int)) = tab n f := by
  unfold cutV
  rw [HT.sIx_none, HT.sIx_nat, tab_len, List.drop_zero, Nat.sub_zero, Nat.min_eq_left h]
  apply List.ext_getElem?
  intro k
  rw [List.getElem?_take]
  by_cases hk : k < n
  · rw [if_pos hk, tab_get (by omega), tab_get hk]
  · rw [if_neg hk, tab_none (by omega)]
/-- the counts of the boxes, weight by weight -/
def rowI (p m : Nat) : List Int := (List.range (p * m + 1)).map fun k : Nat => G p m k
theorem rowI_tab (p m : Nat) : (rowI p m).map V.int = tab (p * m + 1) fun k => G p m k := by
  unfold rowI tab
  rw [List.map_map]
  rfl
/-- one part more, first loop, second loop -/
def W1 (i m L j : Nat) (k : Nat) : Int := if L ≤ k + j then G i m k - G i m ((k : Int) - (m + (i + 1) : Nat)) else G i m k
def W2 (i m j : Nat) (k : Nat) : Int := if k < i + 1 + j then G (i + 1) m k else G i m k - G i m ((k : Int) - (m + (i + 1) : Nat))
theorem W1_0 {i m L k : Nat} (h : k < L) : W1 i m L 0 k = G i m k := by
  unfold W1
  rw [if_neg (by omega)]
theorem W1_end {i m L : Nat} {k : Nat} (hL : m + (i + 1) ≤ L) : W1 i m L (L - (m + (i + 1))) k = G i m k - G i m ((k : Int) - (m + (i + 1) : Nat)) := by
  unfold W1
  split
  · rfl
  · rw [G_neg i m ((k : Int) - ((m + (i + 1) : Nat) : Int)) (by omega)]
    omega
theorem W1_step {i m L j k : Nat} (hj : j < L - (m + (i + 1))) (hk : k < L) : (if k = L - 1 - j then W1 i m L j (L - 1 - j) - W1 i m L j (L - 1 - j - (m + (i + 1))) else W1 i m L j k) = W1 i m L (j + 1) k := by
  unfold W1
  by_cases e : k = L - 1 - j
  · subst e
    rw [if_pos rfl, if_neg (by omega), if_neg (by omega), if_pos (by omega)]
    rw [show (((L - 1 - j - (m + (i + 1)) : Nat)) : Int) = ((L - 1 - j : Nat) : Int) - ((m + (i + 1) : Nat) : Int) by omega]
  · rw [if_neg e]
    by_cases h : L ≤ k + j
    · rw [if_pos h, if_pos (by omega)]
    · rw [if_neg h, if_neg (by omega)]
theorem W2_0 {i m k : Nat} : W2 i m 0 k = G i m k - G i m ((k : Int) - (m + (i + 1) : Nat)) := by
  unfold W2
  split
  · have e := G_key i m (k : Int)
    rw [G_neg (i + 1) m ((k : Int) - ((i + 1 : Nat) : Int)) (by omega)] at e
    omega
  · rfl
theorem W2_step {i m j k : Nat} : (if k = i + 1 + j then W2 i m j (i + 1 + j) + W2 i m j j else W2 i m j k) = W2 i m (j + 1) k := by
  unfold W2
  by_cases e : k = i + 1 + j
  · subst e
    rw [if_pos rfl, if_neg (by omega), if_pos (by omega), if_pos (by omega)]
    have e := G_key i m ((i + 1 + j : Nat) : Int)
    rw [show ((i + 1 + j : Nat) : Int) - ((i + 1 : Nat) : Int) = (j : Int) by omega] at e
    omega
  · rw [if_neg e]
    by_cases h : k < i + 1 + j
    · rw [if_pos h, if_pos (by omega)]
    · rw [if_neg h, if_neg (by omega)]
theorem W2_end {i m L k : Nat} (hk : k < L) (hL : i + 1 ≤ L) : W2 i m (L - (i + 1)) k = G (i + 1) m k := by
  unfold W2
  rw [if_pos (by omega)]
theorem ix_at {n : Nat} {z : Int} {j : Nat} (e : z = (j : Int)) (h : j < n) : ixN n z = some j := by
  rw [e]
  exact Evl.ixN_nat h
section
variable {P : Program} {w : World} {K : PySem.W.Frag} {mg : Str → Option Value} {base : Heap}
def spRow : Sp := fun vs H Q _ => ∃ p m : Nat, vs = [.int p, .int m] ∧ p ≤ 40 ∧ m ≤ 40 ∧ ∀ l H', Same H H' → H l = none → H' l = some (.lst ((rowI p m).map V.int)) → Q (.ref l) H'
theorem ok_row_in (T : Facts K mg) : FnOk P w K mg base CX0 1 T.f_row_in T.fd_row_in ["parts", "most"] spRow := by
  refine T.F_row_in.ok sc_row_in (fun vs H Q E h => ?_) (fun cdv A outer s H vs Q E hr h => ?_)
  · obtain ⟨p, m, rfl, _⟩ := h
    rfl
  · obtain ⟨p, m, rfl, hp, hm, q⟩ := h
    refine ⟨_, (PSs.nox (pss_cons (ps_set (i := 2) sc_row_in.nd rfl (.inl rfl) (pe_lst (pa_cons pe_int pa_nil)))
    (pss_cons (ps_for PassesOwn.never (by rfl) (pi_range2 (by rfl) T.z_range (pa_cons pe_int (pa_cons (pe_op op_add (pv 0) pe_int) pa_nil))) (pg_name (i := 3) sc_row_in.nd rfl (.inl rfl))
      (pss_cons (ps_set (i := 4) sc_row_in.nd rfl (.inl rfl) (pe_lst (pa_star (pv 2) (pa_star (pe_lc (own := [("place", 5)]) (g := (gName 5)) (tt := tYes) (by rfl) sc_row_in.nd (pi_range1 (by rfl) T.z_range (pa_cons (pe_op op_add (pv 1) (pv 3)) pa_nil)) (blkOk_by (N := N_row_in) (sc := defScope s_row_in) (by decide +kernel)) (fun _ _ _ _ _ => (pg_name (i := 5) sc_row_in.nd rfl (.inl rfl))) (fun _ _ _ _ _ => pts_nil) (fun _ _ _ _ _ => pe_int)) pa_nil))))
      (pss_cons (ps_for PassesOwn.never (by rfl) (pi_range3 (by rfl) T.z_range (pa_cons (pe_op op_sub (pe_callB call_len_seq (by rfl) T.z_len (by decide +kernel) (pa_cons (pv 4) pa_nil)) pe_int) (pa_cons (pe_op op_sub (pe_op op_add (pv 1) (pv 3)) pe_int) (pa_cons (pe_un un_neg pe_int) pa_nil)))) (pg_name (i := 5) sc_row_in.nd rfl (.inl rfl))
        (pss_one (ps_asg (pe_op op_sub (pe_ix ix_list (pv 4) (pv 5) (fun _ _ => rfl)) (pe_ix ix_list (pv 4) (pe_op op_sub (pe_op op_sub (pv 5) (pv 1)) (pv 3)) (fun _ _ => rfl))) (pg_sub (pv 4) (pv 5) set_list))))
      (pss_cons (ps_for PassesOwn.never (by rfl) (pi_range2 (by rfl) T.z_range (pa_cons (pv 3) (pa_cons (pe_callB call_len_seq (by rfl) T.z_len (by decide +kernel) (pa_cons (pv 4) pa_nil)) pa_nil))) (pg_name (i := 5) sc_row_in.nd rfl (.inl rfl))
        (pss_one (ps_asg (pe_op op_add (pe_ix ix_list (pv 4) (pv 5) (fun _ _ => rfl)) (pe_ix ix_list (pv 4) (pe_op op_sub (pv 5) (pv 3)) (fun _ _ => rfl))) (pg_sub (pv 4) (pv 5) set_list))))
      (pss_one (ps_set (i := 2) sc_row_in.nd rfl (.inl rfl) (pe_slice sl_list (pv 4) po_none (po_some (pe_op op_add (pe_op op_mul (pv 3) (pv 1)) pe_int)))))))))
    (pss_one (ps_ret (pv 2)))))), ?_⟩
    -- row = [1]
    refine ⟨by show 1 ≤ sizeLine; decide, fun r0 nr0 => ?_⟩
    -- for part in range(1, parts + 1)
    refine ⟨.int p, rfl, p, 1, rfl, rfl, 1, (p : Int) + 1, rfl, ⟨by decide, by decide, by omega, by omega⟩, for_range (n := ((p : Int) + 1 - 1).toNat) (fun i σ H3 => ∃ r y3 y4 y5, σ = [some (.int p), some (.int m), some (.ref r), y3, y4, y5] ∧ Same H H3 ∧ H r = none ∧ H3 r = some (.lst (tab (i * m + 1) fun k => G i m k)))
      ⟨r0, none, none, none, rfl, same_upd0 nr0, nr0, ?_⟩ (fun i σ H3 hi hP => ?_) (fun σ H3 hP => ?_)⟩
    · rw [upd_same]
      show some (HO.lst [V.int 1]) = _
      rw [show (0 * m + 1) = 1 by omega]
      show _ = some (HO.lst [V.int (G 0 m 0)])
      rw [G_0]
      rfl
    · obtain ⟨r, y3, y4, y5, rfl, sm, nr, hrow⟩ := hP
      have hi' : i < p := by omega
      -- wide = [*row, *[0 for place in range(most + part)]]
      refine ⟨.ref r, rfl, r, _, rfl, .inr (SqL.of hrow), ?_⟩
      refine ⟨.int m, rfl, _, rfl, _, _, rfl, rfl, _, rfl, (by show -(2 ^ 62) ≤ (m : Int) + (1 + (i : Int)); omega), (by show (m : Int) + (1 + (i : Int)) < 2 ^ 62; omega), fun D hD => lc_range (n := _) (fun j H' => H' = upd H3 D (.lst (List.replicate j (V.int 0)))) rfl (fun j H' hj hP => ?_) (fun H' hP => ?_)⟩
      · subst hP
        refine ⟨rfl, ⟨_, upd_same, ?_, ?_⟩⟩
        · rw [List.length_replicate]
          exact small1000 (by omega)
        · rw [upd_upd, List.replicate_succ']
      · subst hP
        have hmul : (i + 1) * m = i * m + m := Nat.succ_mul i m
        have hle : i * m ≤ 40 * 40 := Nat.mul_le_mul (by omega) hm
        obtain ⟨L, hL⟩ : ∃ L, L = i * m + 1 + (m + (1 + i)) := ⟨_, rfl⟩
        refine ⟨D, _, rfl, .inr (SqL.of upd_same), ?_⟩
        have ew : tab (i * m + 1) (fun k => G i m k) ++ (List.replicate ((m : Int) + (1 + (i : Int))).toNat (V.int 0) ++ []) = tab L fun k => G i m k := by
          rw [List.append_nil, show ((m : Int) + (1 + (i : Int))).toNat = m + (1 + i) by omega, hL]
          refine tab_app fun k hk _ => ?_
          exact G_sup i m k (by omega)
        refine ⟨?_, fun w0 nw => ?_⟩
        · show (tab (i * m + 1) (fun k => G i m k) ++ (List.replicate ((m : Int) + (1 + (i : Int))).toNat (V.int 0) ++ [])).length ≤ sizeLine
          rw [ew, tab_len]
          exact Nat.le_of_lt (Nat.lt_of_lt_of_le (show L < 4000 by omega) (by decide))
        obtain ⟨Hw, eHw⟩ : ∃ Hw, Hw = upd H3 D (.lst (List.replicate ((m : Int) + (1 + (i : Int))).toNat (V.int 0))) := ⟨_, rfl⟩
        have smw : Same H Hw := by
          rw [eHw]
          exact sm.trans (same_upd0 hD)
        rw [← eHw] at nw
        show _
        rw [ew, ← eHw]
        have nwH : H w0 = none := Same.free smw nw
        -- the first loop
        refine ⟨.ref w0, rfl, w0, _, rfl, .inl (SqL.of upd_same), ?_⟩
        rw [tab_len]
        refine ⟨L, 1, rfl, rfl, .int m, rfl, _, rfl, _, _, rfl, rfl, _, _, rfl, rfl, 1, rfl, _, _, _, _, rfl, RgC.neg (by omega) (by omega) (by omega) (by omega), ?_⟩
        rw [show ((L : Int) - 1 - ((m : Int) + (1 + (i : Int)) - 1)).toNat = L - (m + (i + 1)) by omega]
        refine for_rangeC (n := L - (m + (i + 1))) (fun j σ H' => ∃ y5, σ = [some (.int p), some (.int m), some (.ref r), some (.int (1 + i)), some (.ref w0), y5] ∧ H' = upd Hw w0 (.lst (tab L (W1 i m L j)))) ⟨y5, rfl, ?_⟩ (fun j σ H' hj hP => ?_) (fun σ H' hP => ?_)
        · rw [tab_ext fun k hk => W1_0 hk]
        · obtain ⟨y5, rfl, rfl⟩ := hP
          have e1 : (L : Int) - 1 + (j : Int) * -1 = ((L - 1 - j : Nat) : Int) := by omega
          have e2 : (L : Int) - 1 + (j : Int) * -1 - (m : Int) - (1 + (i : Int)) = ((L - 1 - j - (m + (i + 1)) : Nat) : Int) := by omega
          refine ⟨.ref w0, rfl, _, rfl, w0, _, _, _, rfl, rfl, SqL.of upd_same, at_of e1 (tab_get (by omega)), .ref w0, rfl, _, rfl, _, rfl, _, _, rfl, rfl, _, rfl, _, _, rfl, rfl, w0, _, _, _, rfl, rfl, SqL.of upd_same, at_of e2 (tab_get (by omega)), _, _, rfl, rfl, ?_⟩
          refine ⟨.ref w0, rfl, _, rfl, w0, _, _, (L - 1 - j), rfl, rfl, upd_same, ?_, ?_⟩
          · rw [tab_len]
            exact ix_at e1 (by omega)
          · refine ⟨_, rfl, ?_⟩
            rw [upd_upd]
            show upd Hw w0 (.lst ((tab L (W1 i m L j)).set (L - 1 - j) (.int (W1 i m L j (L - 1 - j) - W1 i m L j (L - 1 - j - (m + (i + 1))))))) = _
            rw [tab_set, tab_ext fun k hk => W1_step hj hk]
        · obtain ⟨y5, rfl, rfl⟩ := hP
          rw [tab_ext fun k hk => (W1_end (i := i) (m := m) (L := L) (k := k) (by omega)).trans W2_0.symm]
          -- the second loop
          refine ⟨.int (1 + i), rfl, .ref w0, rfl, w0, _, rfl, .inl (SqL.of upd_same), ?_⟩
          rw [tab_len]
          refine ⟨1 + i, L, rfl, ⟨by omega, by omega, by omega, by omega⟩, ?_⟩
          rw [show ((L : Int) - (1 + (i : Int))).toNat = L - (i + 1) by omega]
          refine for_range (n := L - (i + 1)) (fun j σ H' => ∃ y5, σ = [some (.int p), some (.int m), some (.ref r), some (.int (1 + i)), some (.ref w0), y5] ∧ H' = upd Hw w0 (.lst (tab L (W2 i m j)))) ⟨y5, rfl, rfl⟩ (fun j σ H' hj hP => ?_) (fun σ H' hP => ?_)
          · obtain ⟨y5, rfl, rfl⟩ := hP
            have e1 : 1 + (i : Int) + (j : Int) = ((i + 1 + j : Nat) : Int) := by omega
            have e2 : 1 + (i : Int) + (j : Int) - (1 + (i : Int)) = ((j : Nat) : Int) := by omega
            refine ⟨.ref w0, rfl, _, rfl, w0, _, _, _, rfl, rfl, SqL.of upd_same, at_of e1 (tab_get (by omega)), .ref w0, rfl, _, rfl, _, rfl, _, _, rfl, rfl, w0, _, _, _, rfl, rfl, SqL.of upd_same, at_of e2 (tab_get (by omega)), _, _, rfl, rfl, ?_⟩
            refine ⟨.ref w0, rfl, _, rfl, w0, _, _, (i + 1 + j), rfl, rfl, upd_same, ?_, ?_⟩
            · rw [tab_len]
              exact ix_at e1 (by omega)
            · refine ⟨_, rfl, ?_⟩
              rw [upd_upd]
              show upd Hw w0 (.lst ((tab L (W2 i m j)).set (i + 1 + j) (.int (W2 i m j (i + 1 + j) + W2 i m j j)))) = _
              rw [tab_set, tab_ext fun k hk => W2_step]
          · obtain ⟨y5, rfl, rfl⟩ := hP
            rw [tab_ext fun k hk => W2_end hk (by omega)]
            -- row = wide[:part * most + 1]
            refine ⟨.ref w0, rfl, _, rfl, _, rfl, _, _, rfl, rfl, .inl ⟨by show -(2 ^ 64) < 1 + (i : Int); omega, by show 1 + (i : Int) < 2 ^ 64; omega⟩, _, _, rfl, rfl, _, rfl, w0, _, rfl, SqL.of upd_same, fun l nl => ?_⟩
            have smw0 : Same Hw (upd Hw w0 (.lst (tab L fun k => G (i + 1) m k))) := same_upd0 nw
            refine ⟨l, _, _, _, rfl, smw.trans (smw0.trans (same_upd0 nl)), Same.free (smw.trans smw0) nl, ?_⟩
            rw [upd_same]
            have e3 : (1 + (i : Int)) * (m : Int) + 1 = (((i + 1) * m + 1 : Nat) : Int) := by
              rw [hmul, Int.add_mul, Int.one_mul, ← Int.natCast_mul]
              omega
            show some (HO.lst (cutV (tab L fun k => G (i + 1) m k) none (some ((1 + (i : Int)) * (m : Int) + 1)))) = _
            rw [e3, tab_take (by omega)]
    · obtain ⟨r, y3, y4, y5, rfl, sm, nr, hrow⟩ := hP
      refine ⟨_, rfl, q r H3 sm nr ?_⟩
      rw [hrow, rowI_tab, show ((p : Int) + 1 - 1).toNat = p by omega]
end
end K26

set_option Elab.async false
set_option linter.all false
set_option maxRecDepth 100000
set_option maxHeartbeats 4000000
/-! rules of mine: a tuple turned round by a slice, the sum of a tuple -/
namespace MyR
open PySem PySem.Spec PyProof.Rows L2 HT
section
variable {prog : Program} {w : World} {A : Around} {E : Value → Shared → Prop} {s : Shared}
theorem places_rev (n : Nat) : Builtin.Slice.slicePlaces ((n : Int) - 1) (-1) (-1) = n := by
  unfold Builtin.Slice.slicePlaces
  have h1 : ¬ ((-1 : Int) > 0) := by decide
  rw [if_neg h1]
  by_cases h : (n : Int) - 1 > -1
  · rw [if_pos h, show (- -1 : Int) = 1 by decide, Int.ediv_one]
    omega
  · rw [if_neg h]
    have : n = 0 := by omega
    subst this
    rfl
theorem sliceApplied_rev {sl : Addr} {vs : Value} {n : Nat} {Q : Int × Int × Nat → Shared → Prop} (hs : s.heap.IsSliceOf sl .none .none vs) (ps : IsPart vs (some (-1)))
    (h : Q ((n : Int) - 1, -1, n) s) : wpAny (model prog w) A (Builtin.Slice.sliceApplied (.ref sl) (pure (n : Int))) Q E s := by
  obtain ⟨os, hos, hcs, hds⟩ := id hs
  unfold Builtin.Slice.sliceApplied Builtin.Slice.sliceFields
  refine wpAny_bind (wpAny_bind (wpAny_field hos hds (x := .none) rfl (wpAny_bind (wpAny_field hos hds (x := .none) rfl (wpAny_bind (wpAny_field hos hds (x := vs) rfl (wpAny_pure ?_)))))))
  refine wpAny_bind (slicePart_ ps ?_)
  show wpAny _ _ (if ((-1 : Int) == 0) = true then _ else _) _ _ s
  rw [if_neg (by decide)]
  refine wpAny_bind (slicePart_none (wpAny_bind (slicePart_none (wpAny_bind (wpAny_pure ?_)))))
  show wpAny _ _ (pure ((n : Int) - 1, (-1 : Int), Builtin.Slice.slicePlaces ((n : Int) - 1) (-1) (-1))) _ _ s
  rw [places_rev]
  exact wpAny_pure h
theorem filterMap_all {α : Type} {f : Nat → Option α} {g : Nat → α} : ∀ l : List Nat, (∀ m ∈ l, f m = some (g m)) → l.filterMap f = l.map g
  | [], _ => rfl
  | a :: r, h => by
    rw [List.filterMap_cons, h a List.mem_cons_self, List.map_cons, filterMap_all r fun m hm => h m (List.mem_cons_of_mem _ hm)]
theorem pick_rev (xs : Array Value) : ((List.range xs.size).filterMap fun (m : Nat) => xs[((xs.size : Int) - 1 + (m : Int) * -1).toNat]?).toArray = xs.toList.reverse.toArray := by
  congr 1
  apply List.ext_getElem?
  intro i
  have e : (List.range xs.size).filterMap (fun (m : Nat) => xs[((xs.size : Int) - 1 + (m : Int) * -1).toNat]?) = (List.range xs.size).map (fun (m : Nat) => xs.toList.reverse.getD m .none) := by
    refine filterMap_all _ fun m hm => ?_
    have hm := List.mem_range.mp hm
    have e1 : ((xs.size : Int) - 1 + (m : Int) * -1).toNat = xs.size - 1 - m := by omega
    have hm' : m < xs.toList.reverse.length := by rw [List.length_reverse, Array.length_toList]; exact hm
    rw [e1, List.getD_eq_getElem?_getD, List.getElem?_eq_getElem hm', Array.getElem?_eq_getElem (by omega)]
    rw [List.getElem_reverse]
    simp only [Array.length_toList, Array.getElem_toList, Option.getD_some]
  rw [e, List.getElem?_map]
  by_cases h : i < xs.size
  · have h' : i < xs.toList.reverse.length := by rw [List.length_reverse, Array.length_toList]; exact h
    rw [List.getElem?_range h, List.getElem?_eq_getElem h']
    show some (xs.toList.reverse.getD i .none) = _
    rw [List.getD_eq_getElem?_getD, List.getElem?_eq_getElem h']
    rfl
  · rw [List.getElem?_eq_none (by rw [List.length_range]; omega), List.getElem?_eq_none (by rw [List.length_reverse, Array.length_toList]; omega)]
    rfl
theorem getItem_tuple_rev {t sl : Addr} {items : Array Value} {vs : Value} {Q : Value → Shared → Prop} (ht : IsTup s.heap t items) (hs : s.heap.IsSliceOf sl .none .none vs) (ps : IsPart vs (some (-1)))
    (h : Q (.ref s.heap.objs.size) { s with heap := s.heap.push { cls := .type "tuple", data := .seq items.toList.reverse.toArray } })
    (hsz : items.size ≤ sizeLine) : wpAny (model prog w) A (getItem (.ref t) (.ref sl)) Q E s := by
  have htake : sizeOk (.seq items.toList.reverse.toArray) := by
    show items.toList.reverse.toArray.size ≤ sizeLine
    rw [List.size_toArray, List.length_reverse, Array.length_toList]
    exact hsz
  obtain ⟨os, hos, hcs, hds⟩ := id hs
  have hTs : s.TypeIs (.ref sl) "slice" := ⟨os, hos, hcs⟩
  unfold getItem
  try with_reducible refine wpAny_holding ?_
  first | refine wpAny_bind (wpAny_pure ?_) | skip
  refine wpAny_bind (wpAny_sequenceKey ht.typeIs (by decide) ?_)
  refine wpAny_bind (wpAny_callSpecial?_slot (name := Str.ofString "__getitem__") ht.typeIs PyProof.Rows.slot_tuple_getitem
    (wpAny_call_entry PyProof.Rows.slot_tuple_getitem ht.typeIs entry_tuple_getitem ?_ (args_tuple_getitem _ _)))
  show wpAny _ _ (Builtin.Tuple.tupleItemsOf (.ref t) >>= _) _ _ s
  refine wpAny_bind (tupleItemsOf_ ht ?_)
  refine wpAny_bind (wpAny_typeOf hTs ?_)
  rw [if_pos (by decide)]
  refine wpAny_bind (sliceApplied_rev (n := items.size) hs ps ?_)
  have hno : ¬ ((((items.size : Int) - 1) == 0 && (-1 : Int) == 1 && items.size == items.size) = true) := by
    intro q
    rw [Bool.and_eq_true, Bool.and_eq_true] at q
    exact absurd q.1.2 (by decide)
  show wpAny _ _ (if ((((items.size : Int) - 1) == 0 && (-1 : Int) == 1 && items.size == items.size) = true) then _ else _) _ _ s
  rw [if_neg hno, pick_rev]
  first
    | exact wpAny_bind (m := Builtin.Tuple.tupleExact _) (wpAny_newObj_type (wpAny_pure ⟨_, rfl, wpAny_pure h⟩) htake)
    | exact wpAny_bind (m := Builtin.Tuple.tupleExact _) (wpAny_newObj_type (wpAny_bind (wpAny_pure (wpAny_pure ⟨_, rfl, wpAny_pure h⟩))) htake)
    | exact wpAny_bind (wpAny_bind (m := Builtin.Tuple.tupleExact _) (wpAny_newObj_type (wpAny_pure (wpAny_pure ⟨_, rfl, wpAny_pure h⟩)) htake))
    | exact wpAny_bind (wpAny_bind (m := Builtin.Tuple.tupleExact _) (wpAny_newObj_type (wpAny_pure ⟨_, rfl, wpAny_pure h⟩) htake))
theorem sumT_raw {l : Addr} {its : List Value} {ns : List Int} {Q : Value → Shared → Prop} (hh : A.handled = none) (hl : s.heap.IsTuple l its.toArray) (hi : IntsAre its ns)
    (h : ∀ h' tk t', (∀ b o, s.heap.get? b = some o → h'.get? b = some o) → Q (.int ns.sum t') { s with heap := h', toks := tk }) : wpAny (model prog w) A (call (.builtin "sum") [.ref l]) Q E s := by
  obtain ⟨xs, e⟩ := hi.allInts.items
  have hn : numsOf (intItems xs).toList = ns := by rw [← e]; exact hi.numsOf
  rw [nums_intItems] at hn
  rw [e] at hl
  refine PySem.W.ktm_sumG hh hl fun h' tk t' hk => ?_
  have := h h' tk t' hk
  rw [preSum_eq, List.take_of_length_le (by simp), hn]; exact this
end
section
variable {X : Cx}
/-- t[::-1], a new tuple -/
def tRevT (K : PySem.W.Frag) (te : TE) : TE := fun σ H Q => te σ H fun x H1 => ∃ a xs, x = .ref a ∧ SqT K H1 a xs ∧ ∀ p, H1 p = none → Q (.ref p) (upd H1 p (.tup xs.reverse))
theorem pe_revT {e : Expr} {te : TE} {k : Nat} {p1 p2 p3 pos : Pos} (he : PE X e te) : PE X (.Subscript e (.Slice none none (some (.UnaryOp .USub (.Constant (.int 1) k p1) p2)) p3) pos) (tRevT X.K te) := by
  refine ⟨fun pins s σ H Q I h => ?_⟩
  refine Subscript_ (thn (he.run pins s σ H _ I h) fun v s1 ⟨x, H1, I1, r1, q1⟩ => ?_)
  obtain ⟨a, xs, ex, hx, q⟩ := q1
  subst ex
  cases r1
  have hst : PO X (some (.UnaryOp .USub (.Constant (.int 1) k p1) p2)) (tPart (tUn (rU fun i => .int (-i)) (tC (.int 1)))) := po_some (pe_un un_neg pe_int)
  refine wpAny_Slice (thn (po_none.run pins s1 σ H1 (fun o H2 => o = none ∧ H2 = H1) I1 ⟨rfl, rfl⟩) fun vl s2 ⟨l, H2, I2, pl, el, e2⟩ => ?_)
  subst el e2
  refine thn (po_none.run pins s2 σ H2 (fun o H3 => o = none ∧ H3 = H2) I2 ⟨rfl, rfl⟩) fun vu s3 ⟨u, H3, I3, pu, eu, e3⟩ => ?_
  subst eu e3
  refine thn (hst.run pins s3 σ H3 (fun o H4 => o = some (-1) ∧ H4 = H3) I3 ⟨1, rfl, -1, rfl, rfl, rfl⟩) fun vs s4 ⟨o, H4, I4, ps, eo, e4⟩ => ?_
  subst eo e4
  have evl : vl = .none := by cases pl; rfl
  have evu : vu = .none := by cases pu; rfl
  subst evl evu
  have I5 : Inv X pins σ H4 { s4 with heap := s4.heap.push { cls := .type "slice", data := .fields #[.none, .none, vs] } } := I4.kept (t' := s4.toks) fun b ob q => Heap.get?_push_of_some _ q
  obtain ⟨its, r, ht, hz⟩ := I5.tuple hx
  have hlen := r.length
  show wpAny (model X.prog X.w) X.A (subscriptTail e (.Slice none none (some (.UnaryOp .USub (.Constant (.int 1) k p1) p2)) p3) (.ref a) (.ref s4.heap.objs.size)) (EP X pins σ Q) X.xe { s4 with heap := s4.heap.push { cls := .type "slice", data := .fields #[.none, .none, vs] } }
  refine tail_any (ops := [.ref a, .ref s4.heap.objs.size]) ht.typeIs (PyProof.Rows.slot_tuple_getitem.lookup) ?_ (by with_unfolding_all rfl)
  refine getItem_tuple_rev ht (Heap.IsSliceOf.new _ .none .none vs) ps ?_ (by rw [List.size_toArray]; omega)
  refine ⟨.ref _, _, I5.laid (t' := s4.toks) (o := .tup xs.reverse) (fun b ob q => Heap.get?_push_of_some _ q) (Nat.le_refl _) ?_, rfl, q _ (I5.hok.fresh (Nat.le_refl _))⟩
  exact ⟨by rw [List.length_reverse]; exact hz, _, r.reverse, IsTup.new _ _⟩
/-- sum of a tuple of ints -/
def rSumT (K : PySem.W.Frag) : List V → Hp → VK → Prop := fun vs H Q => ∃ (a : Addr) (ns : List Int), vs = [V.ref a] ∧ SqT K H a (ns.map V.int) ∧ Q (.int ns.sum) H
theorem cr_sumT (hc : X.calm = true) : CallR X (.builtin "sum") (rSumT X.K) := by
  intro pins s σ H vs us Q I r h
  obtain ⟨a, ns, rfl, hs, q⟩ := h
  obtain ⟨its, rv, hl, _⟩ := I.tuple hs
  rw [Vals.ref1 r]
  refine sumT_raw (I.ok.hd hc) ?_ (intsAre_of rv) fun h' tk t' hk => ⟨.int _, H, I.kept hk, ⟨_, rfl⟩, q⟩
  exact hl
end
end MyR

set_option Elab.async false
set_option linter.all false
set_option maxRecDepth 100000
set_option maxHeartbeats 4000000
namespace K26
open PySem PySem.Spec PyProof.Rows L2 StX
theorem rowI_len (p m : Nat) : (rowI p m).length = p * m + 1 := by
  unfold rowI
  rw [List.length_map, List.length_range]
theorem rowI_get {p m k : Nat} (h : k < p * m + 1) : (rowI p m)[k]? = some (G p m k) := by
  unfold rowI
  rw [List.getElem?_map, List.getElem?_range h]
  rfl
theorem rowI_count (p m : Nat) (n : Int) : (if 0 ≤ n ∧ n < ((rowI p m).length : Int) then (rowI p m).getD n.toNat 0 else 0) = G p m n := by
  rw [rowI_len]
  split
  · obtain ⟨j, rfl⟩ := Int.eq_ofNat_of_zero_le (show 0 ≤ n by omega)
    rw [show ((j : Int)).toNat = j from rfl, List.getD_eq_getElem?_getD, rowI_get (by omega)]
    rfl
  · by_cases h : n < 0
    · rw [G_neg p m n h]
    · rw [G_sup p m n (by omega)]
section
variable {P : Program} {w : World} {K : PySem.W.Frag} {mg : Str → Option Value} {base : Heap}
def spBoxCount : Sp := fun vs H Q _ => ∃ (n : Int) (p m : Nat), vs = [.int n, .int p, .int m] ∧ 0 ≤ n ∧ n ≤ 1600 ∧ p ≤ 40 ∧ m ≤ 40 ∧ ∀ H', Same H H' → Q (.int (G p m n)) H'
theorem ok_box_count (T : Facts K mg) : FnOk P w K mg base CX0 4 T.f_box_count T.fd_box_count ["weight", "parts", "most"] spBoxCount := by
  have G_require_part : FnOk P w K mg base CX0 3 T.f_require_part T.fd_require_part ["value"] (spReq 40) := ok_require_part T
  have G_require_weight : FnOk P w K mg base CX0 3 T.f_require_weight T.fd_require_weight ["value"] (spReq 1600) := ok_require_weight T
  have G_count_in : FnOk P w K mg base CX0 1 T.f_count_in T.fd_count_in ["weight", "row"] (spCount K) := ok_count_in T
  have G_row_in : FnOk P w K mg base CX0 1 T.f_row_in T.fd_row_in ["parts", "most"] spRow := ok_row_in T
  refine T.F_box_count.ok sc_box_count (fun vs H Q E h => ?_) (fun cdv A outer s H vs Q E hr h => ?_)
  · obtain ⟨n, p, m, rfl, _⟩ := h
    rfl
  · obtain ⟨n, p, m, rfl, h0, h1, hp, hm, q⟩ := h
    refine ⟨_, (PSs.nox (pss_cons (ps_expr (pe_call G_require_weight hr (by rfl) T.g_require_weight T.F_require_weight.kp T.b_require_weight .nil pass0 (pa_cons (pv 0) pa_nil)))
    (pss_cons (ps_expr (pe_call G_require_part hr (by rfl) T.g_require_part T.F_require_part.kp T.b_require_part .nil pass0 (pa_cons (pv 1) pa_nil)))
    (pss_cons (ps_expr (pe_call G_require_part hr (by rfl) T.g_require_part T.F_require_part.kp T.b_require_part .nil pass0 (pa_cons (pv 2) pa_nil)))
    (pss_one (ps_ret (pe_call G_count_in (hr.mono (by decide)) (by rfl) T.g_count_in T.F_count_in.kp T.b_count_in .nil pass0 (pa_cons (pv 0) (pa_cons (pe_call G_row_in (hr.mono (by decide)) (by rfl) T.g_row_in T.F_row_in.kp T.b_row_in .nil pass0 (pa_cons (pv 1) (pa_cons (pv 2) pa_nil))) pa_nil))))))))), ?_⟩
    refine ⟨.int n, rfl, n, rfl, h0, h1, ?_⟩
    refine ⟨.int p, rfl, p, rfl, by omega, by omega, ?_⟩
    refine ⟨.int m, rfl, m, rfl, by omega, by omega, ?_⟩
    refine ⟨.int n, rfl, .int p, rfl, .int m, rfl, p, m, rfl, hp, hm, fun l H' sm nl hl => ?_⟩
    refine ⟨n, l, rowI p m, rfl, SqL.of hl, ?_⟩
    rw [rowI_count]
    exact q H' sm
def spBoxRow : Sp := fun vs H Q _ => ∃ p m : Nat, vs = [.int p, .int m] ∧ p ≤ 40 ∧ m ≤ 40 ∧ ∀ l H', Same H H' → H l = none → H' l = some (.tup ((rowI p m).map V.int)) → Q (.ref l) H'
theorem ok_box_row (T : Facts K mg) : FnOk P w K mg base CX0 4 T.f_box_row T.fd_box_row ["parts", "most"] spBoxRow := by
  have G_require_part : FnOk P w K mg base CX0 3 T.f_require_part T.fd_require_part ["value"] (spReq 40) := ok_require_part T
  have G_row_in : FnOk P w K mg base CX0 1 T.f_row_in T.fd_row_in ["parts", "most"] spRow := ok_row_in T
  refine T.F_box_row.ok sc_box_row (fun vs H Q E h => ?_) (fun cdv A outer s H vs Q E hr h => ?_)
  · obtain ⟨p, m, rfl, _⟩ := h
    rfl
  · obtain ⟨p, m, rfl, hp, hm, q⟩ := h
    refine ⟨_, (PSs.nox (pss_cons (ps_expr (pe_call G_require_part hr (by rfl) T.g_require_part T.F_require_part.kp T.b_require_part .nil pass0 (pa_cons (pv 0) pa_nil)))
    (pss_cons (ps_expr (pe_call G_require_part hr (by rfl) T.g_require_part T.F_require_part.kp T.b_require_part .nil pass0 (pa_cons (pv 1) pa_nil)))
    (pss_one (ps_ret (pe_tupleOf (by rfl) T.z_tuple (pe_call G_row_in (hr.mono (by decide)) (by rfl) T.g_row_in T.F_row_in.kp T.b_row_in .nil pass0 (pa_cons (pv 0) (pa_cons (pv 1) pa_nil))))))))), ?_⟩
    refine ⟨.int p, rfl, p, rfl, by omega, by omega, ?_⟩
    refine ⟨.int m, rfl, m, rfl, by omega, by omega, ?_⟩
    refine ⟨.int p, rfl, .int m, rfl, p, m, rfl, hp, hm, fun l H' sm nl hl => ?_⟩
    refine .inl ⟨l, _, rfl, SqL.of hl, fun t nt => ?_⟩
    exact q t _ (sm.trans (same_upd0 nt)) (Same.free sm nt) upd_same
end
end K26

set_option Elab.async false
set_option linter.all false
set_option maxRecDepth 100000
set_option maxHeartbeats 4000000
namespace K26
open PySem PySem.Spec PyProof.Rows L2 StX
/-- the boxes of just j members, each at most v -/
def Eb : Nat → Nat → Int → Int
  | 0, j, k => if j = 0 ∧ k = 0 then 1 else 0
  | _ + 1, 0, k => if k = 0 then 1 else 0
  | v + 1, j + 1, k => Eb v (j + 1) k + Eb (v + 1) j (k - (v + 1 : Nat))
theorem Eb_0 (j : Nat) (k : Int) : Eb 0 j k = if j = 0 ∧ k = 0 then 1 else 0 := by rw [Eb]
theorem Eb_v0 (v : Nat) (k : Int) : Eb v 0 k = if k = 0 then 1 else 0 := by
  cases v with
  | zero =>
    rw [Eb_0]
    simp only [true_and]
  | succ v => rw [Eb]
theorem Eb_s (v j : Nat) (k : Int) : Eb (v + 1) (j + 1) k = Eb v (j + 1) k + Eb (v + 1) j (k - (v + 1 : Nat)) := by rw [Eb]
theorem Eb_neg : ∀ (v j : Nat) (k : Int), k < 0 → Eb v j k = 0
  | 0, j, k, h => by rw [Eb_0, if_neg (by omega)]
  | v + 1, 0, k, h => by rw [Eb_v0, if_neg (by omega)]
  | v + 1, j + 1, k, h => by rw [Eb_s, Eb_neg v (j + 1) k h, Eb_neg (v + 1) j (k - ((v + 1 : Nat) : Int)) (by omega)]; rfl
/-- up to j members -/
def sumE (v : Nat) : Nat → Int → Int
  | 0, k => Eb v 0 k
  | j + 1, k => sumE v j k + Eb v (j + 1) k
theorem sumE_s : ∀ (v j : Nat) (k : Int), sumE (v + 1) (j + 1) k = sumE v (j + 1) k + sumE (v + 1) j (k - (v + 1 : Nat))
  | v, 0, k => by
    show Eb (v + 1) 0 k + Eb (v + 1) 1 k = (Eb v 0 k + Eb v 1 k) + Eb (v + 1) 0 (k - ((v + 1 : Nat) : Int))
    have e := Eb_s v 0 k
    simp only [Nat.zero_add] at e
    rw [e, Eb_v0, Eb_v0, Eb_v0]
    omega
  | v, j + 1, k => by
    have ih := sumE_s v j k
    show sumE (v + 1) (j + 1) k + Eb (v + 1) (j + 2) k = (sumE v (j + 1) k + Eb v (j + 2) k) + (sumE (v + 1) j (k - ((v + 1 : Nat) : Int)) + Eb (v + 1) (j + 1) (k - ((v + 1 : Nat) : Int)))
    have e := Eb_s v (j + 1) k
    rw [show j + 1 + 1 = j + 2 by omega] at e
    rw [ih, e]
    omega
theorem sumE_G : ∀ (v j : Nat) (k : Int), sumE v j k = G v j k
  | v, 0, k => by
    show Eb v 0 k = _
    rw [Eb_v0, G_p0]
  | 0, j + 1, k => by
    show sumE 0 j k + Eb 0 (j + 1) k = _
    rw [sumE_G 0 j k, G_0, G_0, Eb_0, if_neg (by omega : ¬ (j + 1 = 0 ∧ k = 0))]
    omega
  | v + 1, j + 1, k => by rw [sumE_s, sumE_G v (j + 1) k, sumE_G (v + 1) j, G_A]
theorem sum_list (v : Nat) (k : Int) : ∀ j : Nat, ((List.range (j + 1)).map fun x => Eb v x k).sum = sumE v j k
  | 0 => by
    show Eb v 0 k + 0 = Eb v 0 k
    omega
  | j + 1 => by
    rw [List.range_succ, List.map_append, List.sum_append, sum_list v k j]
    show sumE v j k + (Eb v (j + 1) k + 0) = sumE v j k + Eb v (j + 1) k
    omega
/-- a row while its weights are gone through -/
def Wr (v j t : Nat) (k : Nat) : Int := if v + 1 ≤ k ∧ k < v + 1 + t then Eb (v + 1) (j + 1) k else Eb v (j + 1) k
theorem Wr_0 {v j k : Nat} : Wr v j 0 k = Eb v (j + 1) k := by
  unfold Wr
  rw [if_neg (by omega)]
theorem Wr_end {v j L k : Nat} (hk : k < L) : Wr v j (L - (v + 1)) k = Eb (v + 1) (j + 1) k := by
  unfold Wr
  split
  · rfl
  · rw [Eb_s, Eb_neg (v + 1) j ((k : Int) - ((v + 1 : Nat) : Int)) (by omega)]
    omega
theorem Wr_step {v j t k : Nat} : (if k = v + 1 + t then Wr v j t (v + 1 + t) + Eb (v + 1) j t else Wr v j t k) = Wr v j (t + 1) k := by
  unfold Wr
  by_cases e : k = v + 1 + t
  · subst e
    rw [if_pos rfl, if_neg (by omega), if_pos (by omega), Eb_s, show ((v + 1 + t : Nat) : Int) - ((v + 1 : Nat) : Int) = (t : Int) by omega]
  · rw [if_neg e]
    by_cases h : v + 1 ≤ k ∧ k < v + 1 + t
    · rw [if_pos h, if_pos (by omega)]
    · rw [if_neg h, if_neg (by omega)]
/-- the rows of the lots lie at A 0, A 1 .. with the functions F 0, F 1 .. -/
structure Lots (H : Hp) (l : Addr) (n L : Nat) (A : Nat → Addr) (F : Nat → Nat → Int) : Prop where
  top : H l = some (.lst ((List.range n).map fun j => V.ref (A j)))
  row : ∀ j, j < n → H (A j) = some (.lst (tab L (F j)))
  inj : ∀ i j, i < n → j < n → A i = A j → i = j
theorem Lots.ne {H : Hp} {l : Addr} {n L : Nat} {A : Nat → Addr} {F : Nat → Nat → Int} (h : Lots H l n L A F) {j : Nat} (hj : j < n) (hL : 0 < L) : A j ≠ l := fun e => by
  have h1 := h.row j hj
  rw [e, h.top] at h1
  have h2 := HO.lst.inj (Option.some.inj h1)
  cases n with
  | zero => omega
  | succ n =>
    cases L with
    | zero => omega
    | succ L =>
      have e3 : ((List.range (n + 1)).map fun j => V.ref (A j))[0]? = some (V.ref (A 0)) := by
        rw [List.getElem?_map, List.getElem?_range (by omega)]
        rfl
      rw [h2, tab_get (by omega)] at e3
      cases e3
theorem Lots.get {H : Hp} {l : Addr} {n L : Nat} {A : Nat → Addr} {F : Nat → Nat → Int} (h : Lots H l n L A F) {j : Nat} (hj : j < n) : ((List.range n).map fun j => V.ref (A j))[j]? = some (V.ref (A j)) := by
  rw [List.getElem?_map, List.getElem?_range hj]
  rfl
/-- one row is written -/
theorem Lots.put {H : Hp} {l : Addr} {n L : Nat} {A : Nat → Addr} {F : Nat → Nat → Int} (h : Lots H l n L A F) {i : Nat} (hi : i < n) (hL : 0 < L) (f : Nat → Int) : Lots (upd H (A i) (.lst (tab L f))) l n L A (fun j => if j = i then f else F j) := by
  refine ⟨?_, fun j hj => ?_, h.inj⟩
  · rw [upd_ne (Ne.symm (h.ne hi hL))]
    exact h.top
  · by_cases e : j = i
    · subst e
      rw [upd_same, if_pos rfl]
    · rw [upd_ne fun z => e (h.inj j i hj hi z), if_neg e]
      exact h.row j hj
theorem Lots.ext {H : Hp} {l : Addr} {n L : Nat} {A : Nat → Addr} {F F' : Nat → Nat → Int} (h : Lots H l n L A F) (e : ∀ j k, j < n → k < L → F j k = F' j k) : Lots H l n L A F' :=
  ⟨h.top, fun j hj => by rw [h.row j hj, tab_ext fun k hk => e j k hj hk], h.inj⟩
section
variable {P : Program} {w : World} {K : PySem.W.Frag} {mg : Str → Option Value} {base : Heap}
theorem ok_law_rows_of (T : Facts K mg) : FnOk P w K mg base CX0 1 T.f_law_rows_of T.fd_law_rows_of ["_law_parts", "_law_most"] spBoxRow := by
  refine T.F_law_rows_of.ok sc_law_rows_of (fun vs H Q E h => ?_) (fun cdv A outer s H vs Q E hr h => ?_)
  · obtain ⟨p, m, rfl, _⟩ := h
    rfl
  · obtain ⟨p, m, rfl, hp, hm, q⟩ := h
    refine ⟨_, (PSs.nox (pss_cons (ps_set (i := 2) sc_law_rows_of.nd rfl (.inr rfl) (pe_lc (own := [("_law_many", 3)]) (g := (gName 3)) (tt := tYes) (by rfl) sc_law_rows_of.nd (pi_range1 (by rfl) T.z_range (pa_cons (pe_op op_add (pv 0) pe_int) pa_nil)) (blkOk_by (N := N_law_rows_of) (sc := defScope s_law_rows_of) (by decide +kernel)) (fun _ _ _ _ _ => (pg_name (i := 3) sc_law_rows_of.nd rfl (.inl rfl))) (fun _ _ _ _ _ => pts_nil) (fun _ _ _ _ _ => (pe_op op_rep (pe_lst (pa_cons pe_int pa_nil)) (pe_op op_add (pe_op op_mul (pv 0) (pv 1)) pe_int)))))
    (pss_cons (ps_asg pe_int (pg_sub (pe_ix ix_list (pv 2) pe_int (fun _ _ => rfl)) pe_int set_list))
    (pss_cons (ps_for PassesOwn.never (by rfl) (pi_range2 (by rfl) T.z_range (pa_cons pe_int (pa_cons (pe_op op_add (pv 1) pe_int) pa_nil))) (pg_name (i := 4) sc_law_rows_of.nd rfl (.inl rfl))
      (pss_one (ps_for PassesOwn.never (by rfl) (pi_range2 (by rfl) T.z_range (pa_cons pe_int (pa_cons (pe_op op_add (pv 0) pe_int) pa_nil))) (pg_name (i := 3) sc_law_rows_of.nd rfl (.inl rfl))
        (pss_cons (ps_par (i := 5) (j := 6) (by rfl) sc_law_rows_of.nd rfl rfl (by decide) rfl rfl (pa_cons (pe_ix ix_list (pv 2) (pv 3) (fun _ _ => rfl)) (pa_cons (pe_ix ix_list (pv 2) (pe_op op_sub (pv 3) pe_int) (fun _ _ => rfl)) pa_nil)) (by rfl))
        (pss_one (ps_for PassesOwn.never (by rfl) (pi_range2 (by rfl) T.z_range (pa_cons (pv 4) (pa_cons (pe_op op_add (pe_op op_mul (pv 0) (pv 1)) pe_int) pa_nil))) (pg_name (i := 7) sc_law_rows_of.nd rfl (.inl rfl))
          (pss_one (ps_asg (pe_op op_add (pe_ix ix_list (pv 5) (pv 7) (fun _ _ => rfl)) (pe_ix ix_list (pv 6) (pe_op op_sub (pv 7) (pv 4)) (fun _ _ => rfl))) (pg_sub (pv 5) (pv 7) set_list)))))))))
    (pss_one (ps_ret (pe_tupleOf (by rfl) T.z_tuple (pe_lc (own := [("_law_weight", 7)]) (g := (gName 7)) (tt := tYes) (by rfl) sc_law_rows_of.nd (pi_range1 (by rfl) T.z_range (pa_cons (pe_op op_add (pe_op op_mul (pv 0) (pv 1)) pe_int) pa_nil)) (blkOk_by (N := N_law_rows_of) (sc := defScope s_law_rows_of) (by decide +kernel)) (fun _ _ _ _ _ => (pg_name (i := 7) sc_law_rows_of.nd rfl (.inr rfl))) (fun _ _ _ _ _ => pts_nil) (fun _ _ _ _ _ => (pe_callB (cr_sum (by rfl) : CallR _ _ (rSum K)) (by rfl) T.z_sum (by decide +kernel) (pa_cons (pe_lc (own := [("_law_row", 5)]) (g := (gName 5)) (tt := tYes) (by rfl) sc_law_rows_of.nd (pi_list (pv 2) : PI _ _ _ (iList K _)) (blkOk_by (N := N_law_rows_of) (sc := relS _ (defScope s_law_rows_of)) (by decide +kernel)) (fun _ _ _ _ _ => (pg_name (i := 5) sc_law_rows_of.nd rfl (.inl rfl))) (fun _ _ _ _ _ => pts_nil) (fun _ _ _ _ _ => (pe_ix (ix_list : IxR _ (rIxL K)) (pv 5) (pv 7) (fun _ _ => rfl)))) pa_nil))))))))))), ?_⟩
    have hL0 : p * m ≤ 40 * 40 := Nat.mul_le_mul hp hm
    obtain ⟨L, hL⟩ : ∃ L, L = p * m + 1 := ⟨_, rfl⟩
    have eL : (p : Int) * (m : Int) + 1 = (L : Int) := by
      rw [hL, ← Int.natCast_mul]
      omega
    have cm : CMul (p : Int) (m : Int) := .inl ⟨by omega, by omega⟩
    -- the lots
    refine ⟨.int p, rfl, _, _, rfl, rfl, _, rfl, (by show -(2 ^ 62) ≤ (p : Int) + 1; omega), (by show (p : Int) + 1 < 2 ^ 62; omega), fun D hD => lc_range (n := ((p : Int) + 1).toNat) (fun j H' => Same H H' ∧ ∃ A, (∀ x, x < j → H (A x) = none) ∧ Lots H' D j L A (fun _ _ => 0)) ⟨same_upd0 hD, fun _ => 0, fun j hj => absurd hj (Nat.not_lt_zero j), upd_same, fun j hj => absurd hj (Nat.not_lt_zero j), fun i j hi => absurd hi (Nat.not_lt_zero i)⟩ (fun j H' hj hP => ?_) (fun H' hP => ?_)⟩
    · obtain ⟨sm, A, Hn, LA⟩ := hP
      refine ⟨rfl, ⟨(by show 1 ≤ sizeLine; decide), fun p1 np1 => ⟨.int p, rfl, .int m, rfl, _, _, rfl, rfl, cm, _, _, rfl, rfl, p1, _, _, rfl, rfl, upd_same, (by show -(2 ^ 63) ≤ (p : Int) * m + 1; rw [eL]; omega), (by show (p : Int) * m + 1 < 2 ^ 63; rw [eL]; omega), ?_, fun p2 np2 => ?_⟩⟩⟩
      · show [V.int 0].length * ((p : Int) * m + 1).toNat ≤ sizeLine
        rw [eL]
        exact Nat.le_of_lt (Nat.lt_of_lt_of_le (show 1 * L < 4000 by omega) (by decide))
      · have nD1 : D ≠ p1 := ne_of_none LA.top np1
        have np2' : H' p2 = none := by
          by_cases e : p2 = p1
          · rw [e]
            exact np1
          · rw [upd_ne e] at np2
            exact np2
        have ne12 : p2 ≠ p1 := fun e => by
          rw [e, upd_same] at np2
          cases np2
        have nD2 : D ≠ p2 := ne_of_none LA.top np2'
        have er : (List.replicate ((p : Int) * m + 1).toNat [V.int 0]).flatten = tab L fun _ => 0 := by
          rw [eL]
          show (List.replicate L [V.int 0]).flatten = _
          rw [List.flatten_replicate_singleton]
          exact tab_app (a := 0) (b := L) (f := fun _ => 0) (fun _ _ _ => rfl) |>.trans (by rw [Nat.zero_add])
        refine ⟨(List.range j).map fun x => V.ref (A x), ?_, ?_, ?_⟩
        · rw [upd_ne nD2, upd_ne nD1]
          exact LA.top
        · rw [List.length_map, List.length_range]
          exact small1000 (by omega)
        · show Same H (upd (upd (upd H' p1 (.lst [.int 0])) p2 (.lst (List.replicate ((p : Int) * m + 1).toNat [V.int 0]).flatten)) D (.lst (((List.range j).map fun x => V.ref (A x)) ++ [V.ref p2]))) ∧ ∃ B, (∀ x, x < j + 1 → H (B x) = none) ∧ Lots (upd (upd (upd H' p1 (.lst [.int 0])) p2 (.lst (List.replicate ((p : Int) * m + 1).toNat [V.int 0]).flatten)) D (.lst (((List.range j).map fun x => V.ref (A x)) ++ [V.ref p2]))) D (j + 1) L B (fun _ _ => 0)
          rw [er]
          refine ⟨fun b o e => ?_, fun x => if x = j then p2 else A x, fun x hx => ?_, ?_, fun x hx => ?_, fun x y hx hy e => ?_⟩
          · have nb : b ≠ D := ne_of_none e hD
            have e1 := sm _ _ e
            rw [upd_ne nb, upd_ne (ne_of_none e1 np2'), upd_ne (ne_of_none e1 np1)]
            exact e1
          · by_cases ex : x = j
            · show H (if x = j then p2 else A x) = none
              rw [if_pos ex]
              exact Same.free sm np2'
            · show H (if x = j then p2 else A x) = none
              rw [if_neg ex]
              exact Hn x (by omega)
          · rw [upd_same, List.range_succ, List.map_append]
            congr 3
            · refine List.map_congr_left fun x hx => ?_
              have := List.mem_range.mp hx
              rw [if_neg (by omega)]
            · show [V.ref p2] = [V.ref (if j = j then p2 else A j)]
              rw [if_pos rfl]
          · by_cases ex : x = j
            · show upd _ D _ (if x = j then p2 else A x) = _
              rw [if_pos ex, upd_ne (Ne.symm nD2), upd_same]
            · show upd _ D _ (if x = j then p2 else A x) = _
              have hx' : x < j := by omega
              have e1 := LA.row x hx'
              rw [if_neg ex, upd_ne (LA.ne hx' (by omega)), upd_ne (ne_of_none e1 np2'), upd_ne (ne_of_none e1 np1)]
              exact e1
          · have aux : ∀ z, z < j → A z ≠ p2 := fun z hz => ne_of_none (LA.row z hz) np2'
            have e' : (if x = j then p2 else A x) = (if y = j then p2 else A y) := e
            by_cases ex : x = j
            · by_cases ey : y = j
              · omega
              · rw [if_pos ex, if_neg ey] at e'
                exact absurd e'.symm (aux y (by omega))
            · by_cases ey : y = j
              · rw [if_neg ex, if_pos ey] at e'
                exact absurd e' (aux x (by omega))
              · rw [if_neg ex, if_neg ey] at e'
                exact LA.inj x y (by omega) (by omega) e'
    · obtain ⟨sm, A, Hn, LA⟩ := hP
      rw [show ((p : Int) + 1).toNat = p + 1 by omega] at LA Hn
      -- lots[0][0] = 1
      refine ⟨.ref D, rfl, D, _, 0, _, rfl, rfl, SqL.of LA.top, atI_nat (LA.get (j := 0) (by omega)), A 0, _, 0, 0, rfl, rfl, LA.row 0 (by omega), ix_at rfl (by rw [tab_len]; omega), ?_⟩
      have L0 : Lots (upd H' (A 0) (.lst (tab L fun k => if k = 0 then 1 else 0))) D (p + 1) L A (fun j k => Eb 0 j k) := by
        refine (LA.put (i := 0) (by omega) (by omega) fun k => if k = 0 then 1 else 0).ext fun j k hj hk => ?_
        show (if j = 0 then (fun k : Nat => if k = 0 then (1 : Int) else 0) else fun _ => 0) k = Eb 0 j k
        rw [Eb_0]
        by_cases ej : j = 0
        · subst ej
          rw [if_pos rfl]
          by_cases ek : k = 0
          · subst ek
            rfl
          · show (if k = 0 then (1 : Int) else 0) = _
            rw [if_neg ek, if_neg (by omega)]
        · rw [if_neg ej, if_neg (by omega)]
      have s0 : Same H (upd H' (A 0) (.lst (tab L fun k => if k = 0 then 1 else 0))) := fun b o e => by
        have nb : b ≠ A 0 := ne_of_none e (Hn 0 (by omega))
        rw [upd_ne nb]
        exact sm _ _ e
      have es : upd H' (A 0) (.lst ((tab L fun _ => 0).set 0 (V.int 1))) = upd H' (A 0) (.lst (tab L fun k => if k = 0 then 1 else 0)) := by rw [tab_set]
      rw [← es] at L0 s0
      -- for value in range(1, most + 1)
      refine ⟨.int m, rfl, _, _, rfl, rfl, 1, _, rfl, ⟨by decide, by decide, (by show -(2 ^ 62) ≤ (m : Int) + 1; omega), (by show (m : Int) + 1 < 2 ^ 62; omega)⟩, for_range (n := ((m : Int) + 1 - 1).toNat) (fun v σ H3 => ∃ y3 y4 y5 y6 y7, σ = [some (.int p), some (.int m), some (.ref D), y3, y4, y5, y6, y7] ∧ Same H H3 ∧ Lots H3 D (p + 1) L A (fun j k => Eb v j k)) ⟨none, none, none, none, none, rfl, s0, L0⟩ (fun v σ H3 hv hP => ?_) (fun σ H3 hP => ?_)⟩
      · obtain ⟨y3, y4, y5, y6, y7, rfl, s3, L3⟩ := hP
        refine ⟨.int p, rfl, _, _, rfl, rfl, 1, _, rfl, ⟨by decide, by decide, (by show -(2 ^ 62) ≤ (p : Int) + 1; omega), (by show (p : Int) + 1 < 2 ^ 62; omega)⟩, for_range (n := ((p : Int) + 1 - 1).toNat) (fun j σ H3 => ∃ y3 y5 y6 y7, σ = [some (.int p), some (.int m), some (.ref D), y3, some (.int (1 + v)), y5, y6, y7] ∧ Same H H3 ∧ Lots H3 D (p + 1) L A (fun x k => if x ≤ j then Eb (v + 1) x k else Eb v x k)) ⟨y3, y5, y6, y7, rfl, s3, L3.ext fun x k hx hk => ?_⟩ (fun j σ H4 hj hP => ?_) (fun σ H4 hP => ?_)⟩
        · show Eb v x k = if x ≤ 0 then Eb (v + 1) x k else Eb v x k
          split
          · have : x = 0 := by omega
            subst this
            rw [Eb_v0, Eb_v0]
          · rfl
        · obtain ⟨y3, y5, y6, y7, rfl, s4, L4⟩ := hP
          have e1 : 1 + (j : Int) = ((j + 1 : Nat) : Int) := by omega
          have e2 : 1 + (j : Int) - 1 = ((j : Nat) : Int) := by omega
          refine ⟨.ref D, rfl, _, rfl, D, _, _, _, rfl, rfl, SqL.of L4.top, at_of e1 (L4.get (j := j + 1) (by omega)), .ref D, rfl, _, rfl, _, _, rfl, rfl, D, _, _, _, rfl, rfl, SqL.of L4.top, at_of e2 (L4.get (j := j) (by omega)), _, _, rfl, ?_⟩
          refine ⟨_, rfl, .int p, rfl, .int m, rfl, _, _, rfl, rfl, cm, _, _, rfl, rfl, _, _, rfl, ⟨by omega, by omega, (by show -(2 ^ 62) ≤ (p : Int) * m + 1; omega), (by show (p : Int) * m + 1 < 2 ^ 62; omega)⟩, ?_⟩
          rw [show ((p : Int) * (m : Int) + 1 - (1 + (v : Int))).toNat = L - (v + 1) by omega]
          refine for_range (n := L - (v + 1)) (fun t σ H5 => ∃ y7, σ = [some (.int p), some (.int m), some (.ref D), some (.int (1 + j)), some (.int (1 + v)), some (.ref (A (j + 1))), some (.ref (A j)), y7] ∧ Same H H5 ∧ Lots H5 D (p + 1) L A (fun x k => if x = j + 1 then Wr v j t k else if x ≤ j then Eb (v + 1) x k else Eb v x k)) ⟨y7, rfl, s4, L4.ext fun x k hx hk => ?_⟩ (fun t σ H5 ht hP => ?_) (fun σ H5 hP => ?_)
          · show (if x ≤ j then Eb (v + 1) x k else Eb v x k) = if x = j + 1 then Wr v j 0 k else if x ≤ j then Eb (v + 1) x k else Eb v x k
            by_cases ex : x = j + 1
            · subst ex
              rw [if_neg (by omega), if_pos rfl, Wr_0]
            · rw [if_neg ex]
          · obtain ⟨y7, rfl, s5, L5⟩ := hP
            have e3 : 1 + (v : Int) + (t : Int) = ((v + 1 + t : Nat) : Int) := by omega
            have e4 : 1 + (v : Int) + (t : Int) - (1 + (v : Int)) = ((t : Nat) : Int) := by omega
            have r1 : H5 (A (j + 1)) = some (.lst (tab L (Wr v j t))) := (L5.row (j + 1) (by omega)).trans (by rw [tab_ext (g := Wr v j t) fun k hk => if_pos rfl])
            have r2 : H5 (A j) = some (.lst (tab L fun k => Eb (v + 1) j k)) := (L5.row j (by omega)).trans (by rw [tab_ext (g := fun k => Eb (v + 1) j k) fun k hk => (if_neg (by omega)).trans (if_pos (Nat.le_refl j))])
            refine ⟨_, rfl, _, rfl, A (j + 1), _, _, _, rfl, rfl, SqL.of r1, at_of e3 (tab_get (by omega)), _, rfl, _, rfl, _, rfl, _, _, rfl, rfl, A j, _, _, _, rfl, rfl, SqL.of r2, at_of e4 (tab_get (by omega)), _, _, rfl, rfl, ?_⟩
            refine ⟨_, rfl, _, rfl, A (j + 1), _, _, (v + 1 + t), rfl, rfl, r1, ix_at e3 (by rw [tab_len]; omega), ?_⟩
            refine ⟨_, rfl, fun b o e => ?_, ?_⟩
            · rw [upd_ne (ne_of_none e (Hn (j + 1) (by omega)))]
              exact s5 _ _ e
            · have L6 := L5.put (i := j + 1) (by omega) (by omega) (fun k => if k = v + 1 + t then Wr v j t (v + 1 + t) + Eb (v + 1) j t else Wr v j t k)
              have es : (tab L (Wr v j t)).set (v + 1 + t) (.int (Wr v j t (v + 1 + t) + Eb (v + 1) j t)) = tab L (fun k => if k = v + 1 + t then Wr v j t (v + 1 + t) + Eb (v + 1) j t else Wr v j t k) := tab_set
              show Lots (upd H5 (A (j + 1)) (.lst ((tab L (Wr v j t)).set (v + 1 + t) (.int (Wr v j t (v + 1 + t) + Eb (v + 1) j t))))) D (p + 1) L A (fun x k => if x = j + 1 then Wr v j (t + 1) k else if x ≤ j then Eb (v + 1) x k else Eb v x k)
              rw [es]
              refine L6.ext fun x k hx hk => ?_
              show (if x = j + 1 then (fun k => if k = v + 1 + t then Wr v j t (v + 1 + t) + Eb (v + 1) j t else Wr v j t k) else fun k => if x = j + 1 then Wr v j t k else if x ≤ j then Eb (v + 1) x k else Eb v x k) k = _
              by_cases ex : x = j + 1
              · rw [if_pos ex, if_pos ex]
                exact Wr_step
              · rw [if_neg ex, if_neg ex, if_neg ex]
          · obtain ⟨y7, rfl, s5, L5⟩ := hP
            refine ⟨_, _, _, _, rfl, s5, L5.ext fun x k hx hk => ?_⟩
            show (if x = j + 1 then Wr v j (L - (v + 1)) k else if x ≤ j then Eb (v + 1) x k else Eb v x k) = if x ≤ j + 1 then Eb (v + 1) x k else Eb v x k
            by_cases ex : x = j + 1
            · subst ex
              rw [if_pos rfl, if_pos (by omega), Wr_end hk]
            · rw [if_neg ex]
              by_cases ej : x ≤ j
              · rw [if_pos ej, if_pos (by omega)]
              · rw [if_neg ej, if_neg (by omega)]
        · obtain ⟨y3, y5, y6, y7, rfl, s4, L4⟩ := hP
          refine ⟨_, _, _, _, _, rfl, s4, L4.ext fun x k hx hk => ?_⟩
          show (if x ≤ ((p : Int) + 1 - 1).toNat then Eb (v + 1) x k else Eb v x k) = Eb (v + 1) x k
          rw [if_pos (by omega)]
      · obtain ⟨y3, y4, y5, y6, y7, rfl, s3, L3⟩ := hP
        rw [show ((m : Int) + 1 - 1).toNat = m by omega] at L3
        refine ⟨.int p, rfl, .int m, rfl, _, _, rfl, rfl, cm, _, _, rfl, rfl, _, rfl, (by show -(2 ^ 62) ≤ (p : Int) * m + 1; omega), (by show (p : Int) * m + 1 < 2 ^ 62; omega), fun D2 hD2 => ?_⟩
        rw [show ((p : Int) * (m : Int) + 1).toNat = L by omega]
        refine lc_range (n := L) (fun i H' => Same H3 H' ∧ H' D2 = some (.lst (tab i fun k => G p m k))) ⟨same_upd0 hD2, upd_same⟩ (fun i H' hi hP => ?_) (fun H' hP => ?_)
        · obtain ⟨s6, h6⟩ := hP
          have L6 : Lots H' D (p + 1) L A (fun j k => Eb m j k) := ⟨s6 _ _ L3.top, fun j hj => s6 _ _ (L3.row j hj), L3.inj⟩
          have e5 : 0 + (i : Int) = ((i : Nat) : Int) := by omega
          refine ⟨rfl, ⟨_, rfl, D, rfl, ⟨_, SqL.of L6.top⟩, fun D3 hD3 => lc_list (xs := (List.range (p + 1)).map fun j => V.ref (A j)) (fun j H7 => H7 = upd H' D3 (.lst ((List.range j).map fun x => V.int (Eb m x i)))) rfl (fun j H7 hj hP => ?_) (fun j x H7 hx hP => ?_) (fun H7 hP => ?_)⟩⟩
          · rw [hP]
            exact (same_upd0 hD3).seq (SqL.of L6.top)
          · subst hP
            have hj : j < p + 1 := by
              have := (List.getElem?_eq_some_iff.mp hx).1
              rw [List.length_map, List.length_range] at this
              exact this
            rw [L6.get hj] at hx
            cases hx
            have r1 : upd H' D3 (.lst ((List.range j).map fun x => V.int (Eb m x i))) (A j) = some (.lst (tab L fun k => Eb m j k)) := same_upd0 hD3 _ _ (L6.row j hj)
            refine ⟨rfl, ⟨_, rfl, _, rfl, A j, _, _, _, rfl, rfl, SqL.of r1, at_of e5 (tab_get hi), _, upd_same, ?_, ?_⟩⟩
            · rw [List.length_map, List.length_range]
              exact small1000 (by omega)
            · rw [upd_upd, List.range_succ, List.map_append]
              rfl
          · subst hP
            rw [List.length_map, List.length_range]
            refine ⟨D3, (List.range (p + 1)).map fun x => Eb m x i, rfl, ?_, ?_⟩
            · rw [List.map_map]
              exact SqL.of upd_same
            · have nD : D2 ≠ D3 := ne_of_none h6 hD3
              refine ⟨tab i fun k => G p m k, ?_, ?_, fun b o e => ?_, ?_⟩
              · rw [upd_ne nD]
                exact h6
              · rw [tab_len]
                exact Nat.lt_of_lt_of_le (show i < 4000 by omega) (by decide)
              · rw [upd_ne (ne_of_none e hD2), upd_ne (ne_of_none (s6 _ _ e) hD3)]
                exact s6 _ _ e
              · rw [upd_same]
                show some (HO.lst (tab i (fun k => G p m k) ++ [V.int ((List.range (p + 1)).map fun x => Eb m x i).sum])) = _
                rw [sum_list, sumE_G, G_sym]
                unfold tab
                rw [List.range_succ, List.map_append]
                rfl
        · obtain ⟨s6, h6⟩ := hP
          refine .inl ⟨D2, _, rfl, SqL.of h6, fun t nt => ?_⟩
          refine q t _ (s3.trans (s6.trans (same_upd0 nt))) (Same.free (s3.trans s6) nt) ?_
          rw [upd_same, rowI_tab, hL]
end
end K26

set_option autoImplicit false
set_option maxRecDepth 100000
set_option maxHeartbeats 4000000
set_option Elab.async false
namespace K26
/-! ### the rows as the digits of numbers -/
def Tn (B : Int) : Nat → (Int → Int) → Int
  | 0, _ => 0
  | n + 1, f => Tn B n f + f n * B ^ n
theorem Tn_add (B : Int) (f g : Int → Int) : ∀ n, Tn B n (fun k => f k + g k) = Tn B n f + Tn B n g
  | 0 => rfl
  | n + 1 => by
    show Tn B n (fun k => f k + g k) + (f n + g n) * B ^ n = Tn B n f + f n * B ^ n + (Tn B n g + g n * B ^ n)
    rw [Tn_add B f g n, Int.add_mul]
    omega
theorem Tn_ext (B : Int) {f g : Int → Int} (h : ∀ k, f k = g k) (n : Nat) : Tn B n f = Tn B n g := by rw [show f = g from funext h]
theorem Tn_zero (B : Int) {f : Int → Int} : ∀ n : Nat, (∀ k : Nat, k < n → f k = 0) → Tn B n f = 0
  | 0, _ => rfl
  | n + 1, h => by
    show Tn B n f + f n * B ^ n = 0
    rw [Tn_zero B n fun k hk => h k (by omega), h n (by omega)]
    omega
theorem Tn_van (B : Int) {f : Int → Int} (n : Nat) (h : ∀ k : Nat, n ≤ k → f k = 0) : ∀ d : Nat, Tn B (n + d) f = Tn B n f
  | 0 => rfl
  | d + 1 => by
    show Tn B (n + d) f + f ((n + d : Nat) : Int) * B ^ (n + d) = _
    rw [Tn_van B n h d, h (n + d) (by omega)]
    omega
theorem Tn_shift (B : Int) {f : Int → Int} (a : Nat) (h : ∀ k : Int, k < 0 → f k = 0) : ∀ n : Nat, Tn B (n + a) (fun k => f (k - a)) = B ^ a * Tn B n f
  | 0 => by
    rw [Nat.zero_add, Tn_zero B (f := fun k => f (k - (a : Int))) a fun k hk => h _ (by omega)]
    show 0 = B ^ a * 0
    rw [Int.mul_zero]
  | n + 1 => by
    rw [show n + 1 + a = (n + a) + 1 by omega]
    show Tn B (n + a) (fun k => f (k - a)) + f (((n + a : Nat) : Int) - a) * B ^ (n + a) = B ^ a * (Tn B n f + f n * B ^ n)
    rw [Tn_shift B a h n, show ((n + a : Nat) : Int) - (a : Int) = (n : Int) by omega, Int.mul_add, Int.pow_add]
    congr 1
    rw [Int.mul_comm (B ^ n) (B ^ a), ← Int.mul_assoc, ← Int.mul_assoc, Int.mul_comm (f n) (B ^ a)]
/-- the same number, by the rule of the rows -/
def kr (B : Nat) : Nat → Nat → Nat
  | 0, _ => 1
  | _ + 1, 0 => 1
  | p + 1, m + 1 => kr B p (m + 1) + B ^ (p + 1) * kr B (p + 1) m
theorem kr_0 (B m : Nat) : kr B 0 m = 1 := by rw [kr]
theorem kr_p0 (B p : Nat) : kr B p 0 = 1 := by cases p <;> rw [kr]
theorem kr_s (B p m : Nat) : kr B (p + 1) (m + 1) = kr B p (m + 1) + B ^ (p + 1) * kr B (p + 1) m := by rw [kr]
theorem kr_T (B : Nat) : ∀ p m : Nat, ((kr B p m : Nat) : Int) = Tn B (p * m + 1) (G p m)
  | 0, m => by
    rw [kr_0, Nat.zero_mul]
    show _ = 0 + G 0 m 0 * (B : Int) ^ 0
    rw [G_0]
    rfl
  | p + 1, 0 => by
    rw [kr_p0, Nat.mul_zero]
    show _ = 0 + G (p + 1) 0 0 * (B : Int) ^ 0
    rw [G_p0]
    rfl
  | p + 1, m + 1 => by
    have e1 := mul11 p m
    have e2 := mul12 p m
    rw [kr_s, Tn_ext B (G_A p m), Tn_add]
    have h1 : Tn B ((p + 1) * (m + 1) + 1) (G p (m + 1)) = Tn B (p * (m + 1) + 1) (G p (m + 1)) := by
      rw [show (p + 1) * (m + 1) + 1 = (p * (m + 1) + 1) + (m + 1) by omega]
      exact Tn_van B _ (fun k hk => G_sup p (m + 1) k (by omega)) _
    have h2 : Tn B ((p + 1) * (m + 1) + 1) (fun k => G (p + 1) m (k - ((p + 1 : Nat) : Int))) = (B : Int) ^ (p + 1) * Tn B ((p + 1) * m + 1) (G (p + 1) m) := by
      rw [show (p + 1) * (m + 1) + 1 = ((p + 1) * m + 1) + (p + 1) by omega]
      exact Tn_shift B (p + 1) (fun k hk => G_neg (p + 1) m k hk) _
    rw [h1, h2, ← kr_T B p (m + 1), ← kr_T B (p + 1) m, Int.natCast_add, Int.natCast_mul, Int.natCast_pow]
theorem Tn_bound {B : Int} {f : Int → Int} (hB : 0 < B) (h : ∀ k, 0 ≤ f k ∧ f k < B) : ∀ n, 0 ≤ Tn B n f ∧ Tn B n f < B ^ n
  | 0 => by
    constructor
    · exact Int.le_refl 0
    · show (0 : Int) < B ^ 0
      rw [Int.pow_zero]
      decide
  | n + 1 => by
    have ih := Tn_bound hB h n
    have hp : 0 < B ^ n := Int.pow_pos hB
    have h1 := h n
    have hm : f n * B ^ n ≤ (B - 1) * B ^ n := Int.mul_le_mul_of_nonneg_right (by omega) (by omega)
    have h0 : 0 ≤ f n * B ^ n := Int.mul_nonneg h1.1 (by omega)
    rw [Int.sub_mul, Int.one_mul] at hm
    rw [Int.pow_succ, Int.mul_comm (B ^ n) B]
    show 0 ≤ Tn B n f + f n * B ^ n ∧ Tn B n f + f n * B ^ n < B * B ^ n
    omega
theorem Tn_digit {B : Int} {f : Int → Int} (hB : 0 < B) (h : ∀ k, 0 ≤ f k ∧ f k < B) (j : Nat) : ∀ n, j < n → Tn B n f / B ^ j % B = f j
  | 0, hn => absurd hn (Nat.not_lt_zero j)
  | n + 1, hn => by
    have hpj : 0 < B ^ j := Int.pow_pos hB
    show (Tn B n f + f n * B ^ n) / B ^ j % B = f j
    by_cases e : j = n
    · subst e
      have b := Tn_bound hB h j
      rw [Int.add_mul_ediv_right _ _ (by omega), Int.ediv_eq_zero_of_lt b.1 b.2, Int.zero_add]
      exact Int.emod_eq_of_lt (h j).1 (h j).2
    · have hj : j < n := by omega
      obtain ⟨d, rfl⟩ : ∃ d, n = j + 1 + d := ⟨n - (j + 1), by omega⟩
      have e2 : f ((j + 1 + d : Nat) : Int) * B ^ (j + 1 + d) = (f ((j + 1 + d : Nat) : Int) * B ^ d * B) * B ^ j := by
        rw [Int.pow_add, Int.pow_succ, Int.mul_assoc, Int.mul_assoc, Int.mul_assoc]
        congr 1
        rw [← Int.mul_assoc, ← Int.mul_assoc, Int.mul_comm (B ^ j) B, Int.mul_comm (B ^ d) B, Int.mul_assoc, Int.mul_assoc, Int.mul_comm (B ^ j)]
      rw [e2, Int.add_mul_ediv_right _ _ (by omega), Int.add_mul_emod_self_right]
      exact Tn_digit hB h j (j + 1 + d) hj
theorem G_digit (p m : Nat) (h : p + m < 128) (k : Nat) (hk : k ≤ p * m) : G p m k = ((kr (2 ^ 128) p m / (2 ^ 128) ^ k % 2 ^ 128 : Nat) : Int) := by
  have hB : (0 : Int) < ((2 ^ 128 : Nat) : Int) := by decide
  have b : ∀ j, 0 ≤ G p m j ∧ G p m j < ((2 ^ 128 : Nat) : Int) := fun j => by
    refine ⟨G_nonneg p m j, Int.lt_of_le_of_lt (G_le p m j) ?_⟩
    have := Nat.pow_lt_pow_right (a := 2) (by decide) h
    exact_mod_cast this
  rw [Int.natCast_emod, Int.natCast_ediv, kr_T, Int.natCast_pow]
  exact (Tn_digit hB b k _ (by omega)).symm
theorem sum_T (f : Int → Int) : ∀ n : Nat, ((List.range n).map fun k : Nat => f k).sum = Tn 1 n f
  | 0 => rfl
  | n + 1 => by
    rw [List.range_succ, List.map_append, List.sum_append, sum_T f n]
    show _ + (f n + 0) = Tn 1 n f + f n * 1 ^ n
    rw [Int.one_pow]
    omega
/-! ### tables -/
/-- the numbers kr q x 1, kr q x 2 .. from those of one part less -/
def goK (q : Nat) : Nat → List Nat → List Nat
  | _, [] => []
  | c, x :: r => (x + q * c) :: goK q (x + q * c) r
def rowK (B : Nat) (M : Nat) : Nat → List Nat
  | 0 => List.replicate M 1
  | p + 1 => goK (B ^ (p + 1)) 1 (rowK B M p)
theorem goK_get {q : Nat} {f g : Nat → Nat} (h : ∀ m, g (m + 1) = f (m + 1) + q * g m) : ∀ (l : List Nat) (m0 : Nat), (∀ i x, l[i]? = some x → x = f (m0 + i + 1)) → ∀ i x, (goK q (g m0) l)[i]? = some x → x = g (m0 + i + 1)
  | [], _, _, i, x, e => by simp [goK] at e
  | y :: r, m0, hl, i, x, e => by
    have hy : y = f (m0 + 1) := hl 0 y rfl
    have e1 : y + q * g m0 = g (m0 + 1) := by rw [hy, h]
    unfold goK at e
    rw [e1] at e
    cases i with
    | zero =>
      have : g (m0 + 1) = x := Option.some.inj e
      exact this.symm
    | succ i =>
      have := goK_get h r (m0 + 1) (fun i x hx => (hl (i + 1) x hx).trans (by congr 1; omega)) i x e
      rw [this]
      congr 1
      omega
theorem rowK_get (B M : Nat) : ∀ (p i x : Nat), (rowK B M p)[i]? = some x → x = kr B p (i + 1)
  | 0, i, x, e => by
    have e' : (List.replicate M 1)[i]? = some x := e
    rw [List.getElem?_replicate] at e'
    split at e'
    · rw [kr_0]
      exact (Option.some.inj e').symm
    · cases e'
  | p + 1, i, x, e => by
    have e' : (goK (B ^ (p + 1)) (kr B (p + 1) 0) (rowK B M p))[i]? = some x := by
      rw [kr_p0]
      exact e
    have := goK_get (f := kr B p) (g := kr B (p + 1)) (fun m => kr_s B p m) (rowK B M p) 0 (fun i x hx => (rowK_get B M p i x hx).trans (by congr 1; omega)) i x e'
    rw [this]
    congr 1
    omega
theorem kr_40 : ∃ x, (rowK (2 ^ 128) 40 40)[39]? = some x ∧ x / (2 ^ 128) ^ 800 % 2 ^ 128 = 410363630540693436398 := ⟨_, rfl, by decide +kernel⟩
theorem G_40 : G 40 40 800 = 410363630540693436398 := by
  obtain ⟨x, e, h⟩ := kr_40
  rw [show (800 : Int) = ((800 : Nat) : Int) from rfl, G_digit 40 40 (by decide) 800 (by decide), ← rowK_get (2 ^ 128) 40 40 39 x e, h]
  rfl
end K26

set_option autoImplicit false
set_option linter.all false
set_option maxRecDepth 100000
set_option maxHeartbeats 4000000
set_option Elab.async false
namespace K26
/-- the digits go up to the n-th -/
def upTo (x : Nat) (n : Nat) : Bool := (List.range n).all fun w => decide (x / (2 ^ 128) ^ w % 2 ^ 128 ≤ x / (2 ^ 128) ^ (w + 1) % 2 ^ 128)
theorem up_small : ∀ p, p < 13 → ∀ i, i < 12 → (match (rowK (2 ^ 128) 12 p)[i]? with | some x => upTo x (p * (i + 1) / 2) | none => false) = true := by decide +kernel
theorem uni (p m : Nat) (hp : p < 13) (hm : m < 13) (w : Nat) (h : w + 1 ≤ p * m / 2) : G p m w ≤ G p m (w + 1 : Nat) := by
  cases m with
  | zero => omega
  | succ i =>
    have c := up_small p hp i (by omega)
    split at c
    · rename_i x e
      have ex := rowK_get (2 ^ 128) 12 p i x e
      have h2 : p * (i + 1) / 2 ≤ p * (i + 1) := Nat.div_le_self _ _
      rw [G_digit p (i + 1) (by omega) w (by omega), G_digit p (i + 1) (by omega) (w + 1) (by omega), ← ex]
      have := of_decide_eq_true (List.all_eq_true.mp c w (List.mem_range.mpr (by omega)))
      exact_mod_cast this
    · cases c
theorem ch_small : ∀ p, p < 13 → ∀ i, i < 12 → (match (rowK 1 12 p)[i]? with | some (x : Nat) => decide (Int.ofNat x = chooseL (p + (i + 1) : Nat) p) | none => false) = true := by decide +kernel
theorem ch_small0 : ∀ p, p < 13 → chooseL (p : Nat) p = 1 := by decide +kernel
theorem rowI_sum (p m : Nat) (hp : p < 13) (hm : m < 13) : (rowI p m).sum = chooseL (p + m : Nat) p := by
  have e0 : (rowI p m).sum = ((kr 1 p m : Nat) : Int) := by
    rw [kr_T]
    exact sum_T (G p m) _
  rw [e0]
  cases m with
  | zero =>
    rw [kr_p0, Nat.add_zero, ch_small0 p hp]
    rfl
  | succ i =>
    have c := ch_small p hp i (by omega)
    split at c
    · rename_i x e
      rw [← rowK_get 1 12 p i x e]
      exact of_decide_eq_true c
    · cases c
theorem rowI_rev (p m : Nat) : (rowI p m).reverse = rowI p m := by
  apply List.ext_getElem?
  intro k
  by_cases h : k < p * m + 1
  · have h' : k < (rowI p m).length := by rw [rowI_len]; exact h
    rw [List.getElem?_reverse h', rowI_get h, rowI_len, rowI_get (by omega)]
    congr 1
    rw [show ((p * m + 1 - 1 - k : Nat) : Int) = ((p * m : Nat) : Int) - (k : Int) by omega, G_rev]
  · rw [List.getElem?_eq_none (by rw [List.length_reverse, rowI_len]; omega), List.getElem?_eq_none (by rw [rowI_len]; omega)]
theorem rowI_sym (p m : Nat) : rowI p m = rowI m p := by
  unfold rowI
  rw [Nat.mul_comm p m]
  exact List.map_congr_left fun k _ => G_sym p m k
theorem rowI_num {p m x : Nat} (h : p + m < 128) (e : kr (2 ^ 128) p m = x) : rowI p m = (List.range (p * m + 1)).map fun k => ((x / (2 ^ 128) ^ k % 2 ^ 128 : Nat) : Int) := by
  unfold rowI
  refine List.map_congr_left fun k hk => ?_
  rw [G_digit p m h k (by have := List.mem_range.mp hk; omega), e]
theorem k23 : ∃ x, (rowK (2 ^ 128) 3 2)[2]? = some x ∧ ((List.range (2 * 3 + 1)).map fun k => ((x / (2 ^ 128) ^ k % 2 ^ 128 : Nat) : Int)) = [1, 1, 2, 2, 2, 1, 1] := ⟨_, rfl, by decide +kernel⟩
theorem rowI_23 : rowI 2 3 = [1, 1, 2, 2, 2, 1, 1] := by
  obtain ⟨x, e, h⟩ := k23
  rw [rowI_num (by decide) (rowK_get (2 ^ 128) 3 2 2 x e).symm, h]
theorem rowI_40 : rowI 4 0 = [1] := by
  show [G 4 0 0] = [1]
  rw [G_p0]
  rfl
theorem rowI_00 : rowI 0 0 = [1] := by
  show [G 0 0 0] = [1]
  rw [G_p0]
  rfl
theorem k106 : ∃ x, (rowK (2 ^ 128) 6 10)[5]? = some x ∧ x / (2 ^ 128) ^ 30 % 2 ^ 128 = 338 := ⟨_, rfl, by decide +kernel⟩
theorem G_106 : G 10 6 30 = 338 := by
  obtain ⟨x, e, h⟩ := k106
  rw [show (30 : Int) = ((30 : Nat) : Int) from rfl, G_digit 10 6 (by decide) 30 (by decide), ← rowK_get (2 ^ 128) 6 10 5 x e, h]
  rfl
theorem G_237 : G 2 3 7 = 0 := G_sup 2 3 7 (by decide)
theorem G_0040 : G 0 40 0 = 1 := by
  rw [G_0]
  rfl
end K26

set_option Elab.async false
set_option linter.all false
set_option maxRecDepth 100000
set_option maxHeartbeats 4000000
namespace K26
open PySem PySem.Spec PyProof.Rows L2 StX MyR
/-- all but the dice is as it was -/
def Sx (a : Addr) (H H' : Hp) : Prop := ∀ b o, b ≠ a → H b = some o → H' b = some o
def Dc (H : Hp) (a : Addr) : Prop := ∃ x y z, H a = some (dice x y z)
theorem Sx.refl (a : Addr) (H : Hp) : Sx a H H := fun _ _ _ h => h
theorem Sx.trans {a : Addr} {H H1 H2 : Hp} (s : Sx a H H1) (t : Sx a H1 H2) : Sx a H H2 := fun b o n h => t b o n (s b o n h)
theorem Sx.of {a : Addr} {H H' : Hp} (s : Same H H') : Sx a H H' := fun b o _ h => s b o h
theorem Sx.upd {a : Addr} {H : Hp} {o : HO} : Sx a H (upd H a o) := fun b u n h => by
  rw [upd_ne n]
  exact h
theorem Dc.same {a : Addr} {H H' : Hp} (d : Dc H a) (s : Same H H') : Dc H' a := by
  obtain ⟨x, y, z, e⟩ := d
  exact ⟨x, y, z, s _ _ e⟩
theorem Dc.ne {a p : Addr} {H : Hp} (d : Dc H a) (n : H p = none) : p ≠ a := fun e => by
  obtain ⟨x, y, z, h⟩ := d
  rw [e, h] at n
  cases n
theorem Sx.free {a p : Addr} {H H' : Hp} (s : Sx a H H') (n : H' p = none) (ne : p ≠ a) : H p = none := by
  cases q : H p with
  | none => rfl
  | some o =>
    rw [s p o ne q] at n
    cases n
theorem Sx.seqT {K : PySem.W.Frag} {a b : Addr} {H H' : Hp} {xs : List V} (s : Sx a H H') (h : H b = some (.tup xs)) (ne : b ≠ a) : SqT K H' b xs := SqT.of (s b _ ne h)
/-! ### == of tuples of ints -/
theorem dpAll_ints {K : PySem.W.Frag} {H : Hp} : ∀ ns : List Int, DpAll K H (ns.map V.int) (ns.map PyData.int)
  | [] => .nil
  | n :: r => .cons (.int n) (dpAll_ints r)
theorem lay_ints : ∀ ns : List Int, PyData.canLayAll0 (ns.map PyData.int) = true
  | [] => rfl
  | n :: r => by
    show (PyData.canLay0 (.int n) && PyData.canLayAll0 (r.map PyData.int)) = true
    rw [lay_ints r]
    rfl
theorem depth_ints : ∀ ns : List Int, PyData.depthAll (ns.map PyData.int) = 0
  | [] => rfl
  | n :: r => by
    show max (PyData.depth (.int n)) (PyData.depthAll (r.map PyData.int)) = 0
    rw [depth_ints r]
    rfl
theorem shaped_tints (ns : List Int) : SeqAt.shaped (.tuple (ns.map PyData.int)) = true := by
  unfold SeqAt.shaped
  rw [show PyData.canLay0 (.tuple (ns.map PyData.int)) = PyData.canLayAll0 (ns.map PyData.int) from rfl, lay_ints]
  rw [show PyData.depth (.tuple (ns.map PyData.int)) = PyData.depthAll (ns.map PyData.int) + 1 from rfl, depth_ints]
  rfl
theorem eqv_tints (ns : List Int) : PyData.eqv (.tuple (ns.map PyData.int)) (.tuple (ns.map PyData.int)) = true := SeqAt.eqv_refl _ (lay_ints ns)
/-- two equal tuples of ints, asked with != -/
theorem ne_same {K : PySem.W.Frag} {H : Hp} {a b : Addr} {ns : List Int} {Q : VK} (ha : SqT K H a (ns.map V.int)) (hb : SqT K H b (ns.map V.int)) (q : Q (.bl false) H) : rNeD K (.ref a) (.ref b) H Q := by
  refine ⟨_, _, .tup ha (dpAll_ints ns), .tup hb (dpAll_ints ns), shaped_tints ns, shaped_tints ns, ?_⟩
  rw [eqv_tints]
  exact q
section
variable {P : Program} {w : World} {K : PySem.W.Frag} {mg : Str → Option Value} {base : Heap}
def spRoll2 : Sp := fun vs H Q _ => ∃ (a : Addr) (n : Int), vs = [.ref a, .int n] ∧ Dc H a ∧ 0 < n ∧ n < 1073741824 ∧ ∀ (r : Nat) H', (r : Int) < n → Sx a H H' → Dc H' a → Q (.int r) H'
theorem roll2 : ∀ vs H Q E, spRoll2 vs H Q E → spRoll vs H Q E := fun vs H Q E h => by
  obtain ⟨a, n, rfl, ⟨x, y, z, e⟩, h0, h1, q⟩ := h
  refine ⟨a, x, y, z, n, rfl, e, h0, h1, fun r x' z' r0 r1 => ?_⟩
  obtain ⟨j, rfl⟩ := Int.eq_ofNat_of_zero_le r0
  exact q j _ r1 Sx.upd ⟨x', y, z', upd_same⟩
def spPick2 : Sp := fun vs H Q _ => ∃ (a b : Addr) (xs : List V), vs = [.ref a, .ref b] ∧ Dc H a ∧ H b = some (.lst xs) ∧ b ≠ a ∧ 0 < xs.length ∧ xs.length < 1000 ∧ ∀ v H', v ∈ xs → Sx a H H' → Dc H' a → Q v H'
theorem pick2 {K : PySem.W.Frag} : ∀ vs H Q E, spPick2 vs H Q E → spPick K vs H Q E := fun vs H Q E h => by
  obtain ⟨a, b, xs, rfl, ⟨x, y, z, e⟩, hb, ne, l0, l1, q⟩ := h
  exact ⟨a, b, x, y, z, xs, rfl, e, hb, Ne.symm ne, l0, l1, fun i v x' z' hv => q v _ (List.mem_of_getElem? hv) Sx.upd ⟨x', y, z', upd_same⟩⟩
def spRight : Sp := fun vs H Q _ => ∃ a : Addr, vs = [.ref a] ∧ Dc H a ∧ ∀ H', Sx a H H' → Dc H' a → Q (.bl true) H'
theorem ok_law_great_right (T : Facts K mg) : FnOk P w K mg base CX0 5 T.f_law_great_right T.fd_law_great_right ["_law_dice_here"] spRight := by
  have G_law_roll : FnOk P w K mg base CX0 1 T.f_law_roll T.fd_law_roll ["_law_dice_here", "_law_total"] spRoll2 := (ok_law_roll T).imp roll2
  have G_box_count : FnOk P w K mg base CX0 4 T.f_box_count T.fd_box_count ["weight", "parts", "most"] spBoxCount := ok_box_count T
  refine T.F_law_great_right.ok sc_law_great_right (fun vs H Q E h => ?_) (fun cdv A outer s H vs Q E hr h => ?_)
  · obtain ⟨a, rfl, _⟩ := h
    rfl
  · obtain ⟨a, rfl, d0, q⟩ := h
    refine ⟨_, (PSs.nox (pss_cons (ps_par (i := 1) (j := 2) (by rfl) sc_law_great_right.nd rfl rfl (by decide) rfl rfl (pa_cons (pe_op op_add pe_int (pe_call G_law_roll (hr.mono (by decide)) (by rfl) T.g_law_roll T.F_law_roll.kp T.b_law_roll .nil pass0 (pa_cons (pv 0) (pa_cons pe_int pa_nil)))) (pa_cons (pe_op op_add pe_int (pe_call G_law_roll (hr.mono (by decide)) (by rfl) T.g_law_roll T.F_law_roll.kp T.b_law_roll .nil pass0 (pa_cons (pv 0) (pa_cons pe_int pa_nil)))) pa_nil)) (by rfl))
    (pss_cons (ps_set (i := 3) sc_law_great_right.nd rfl (.inl rfl) (pe_call G_law_roll (hr.mono (by decide)) (by rfl) T.g_law_roll T.F_law_roll.kp T.b_law_roll .nil pass0 (pa_cons (pv 0) (pa_cons (pe_op op_add (pe_op op_mul (pv 1) (pv 2)) pe_int) pa_nil))))
    (pss_cons (ps_set (i := 4) sc_law_great_right.nd rfl (.inl rfl) (pe_call G_box_count hr (by rfl) T.g_box_count T.F_box_count.kp T.b_box_count .nil pass0 (pa_cons (pv 3) (pa_cons (pv 1) (pa_cons (pv 2) pa_nil)))))
    (pss_cons (ps_if (pw_or (pt_cmpR op_ne (pv 4) (pe_call G_box_count hr (by rfl) T.g_box_count T.F_box_count.kp T.b_box_count .nil pass0 (pa_cons (pv 3) (pa_cons (pv 2) (pa_cons (pv 1) pa_nil)))) (nomark _)) (pw_or1 (pt_cmpR op_ne (pv 4) (pe_call G_box_count hr (by rfl) T.g_box_count T.F_box_count.kp T.b_box_count .nil pass0 (pa_cons (pe_op op_sub (pe_op op_mul (pv 1) (pv 2)) (pv 3)) (pa_cons (pv 1) (pa_cons (pv 2) pa_nil)))) (nomark _)))).pt
      (pss_one (ps_ret pe_bl))
      pss_nil)
    (pss_cons (ps_set (i := 5) sc_law_great_right.nd rfl (.inl rfl) (pe_call G_box_count hr (by rfl) T.g_box_count T.F_box_count.kp T.b_box_count .nil pass0 (pa_cons (pv 3) (pa_cons (pe_op op_sub (pv 1) pe_int) (pa_cons (pv 2) pa_nil)))))
    (pss_one (ps_ret (pe_cmpR op_eq (pv 4) (pe_op op_add (pv 5) (pe_ifExp (pt_cmpR op_ge (pv 3) (pv 1) (nomark _)) (pe_call G_box_count hr (by rfl) T.g_box_count T.F_box_count.kp T.b_box_count .nil pass0 (pa_cons (pe_op op_sub (pv 3) (pv 1)) (pa_cons (pv 1) (pa_cons (pe_op op_sub (pv 2) pe_int) pa_nil)))) pe_int)) (nomark _)))))))))), ?_⟩
    refine ⟨.ref a, rfl, a, 40, rfl, d0, by decide, by decide, fun r1 H1 b1 s1 d1 => ⟨_, _, rfl, rfl, .ref a, rfl, a, 40, rfl, d1, by decide, by decide, fun r2 H2 b2 s2 d2 => ⟨_, _, rfl, rfl, .int ((r1 + 1 : Nat) : Int), .int ((r2 + 1 : Nat) : Int), ?_, ?_⟩⟩⟩
    · show [V.int (1 + (r1 : Int)), V.int (1 + (r2 : Int))] = _
      rw [show 1 + (r1 : Int) = ((r1 + 1 : Nat) : Int) by omega, show 1 + (r2 : Int) = ((r2 + 1 : Nat) : Int) by omega]
    have hp : r1 < 40 := by omega
    have hm : r2 < 40 := by omega
    obtain ⟨p, ep⟩ : ∃ p, p = r1 := ⟨_, rfl⟩
    obtain ⟨m, em⟩ : ∃ m, m = r2 := ⟨_, rfl⟩
    rw [← ep] at hp ⊢
    rw [← em] at hm ⊢
    have hpm : (p + 1) * (m + 1) ≤ 40 * 40 := Nat.mul_le_mul (by omega) (by omega)
    have epm : ((p + 1 : Nat) : Int) * ((m + 1 : Nat) : Int) = (((p + 1) * (m + 1) : Nat) : Int) := (Int.natCast_mul _ _).symm
    obtain ⟨N, hN⟩ : ∃ N, N = (p + 1) * (m + 1) := ⟨_, rfl⟩
    rw [← hN] at hpm epm
    have cm : CMul ((p + 1 : Nat) : Int) ((m + 1 : Nat) : Int) := .inl ⟨by omega, by omega⟩
    have s12 := s1.trans s2
    refine ⟨.ref a, rfl, _, rfl, _, rfl, _, _, rfl, rfl, cm, _, _, rfl, rfl, a, _, rfl, d2, (by show 0 < ((p + 1 : Nat) : Int) * ((m + 1 : Nat) : Int) + 1; omega), (by show ((p + 1 : Nat) : Int) * ((m + 1 : Nat) : Int) + 1 < 1073741824; omega), fun t H3 b3 s3 d3 => ?_⟩
    have b3' : (t : Int) < ((p + 1 : Nat) : Int) * ((m + 1 : Nat) : Int) + 1 := b3
    have ht : t ≤ N := by omega
    have hG : G (p + 1) (m + 1) t = G p (m + 1) t + (if ((p + 1 : Nat) : Int) ≤ (t : Int) then G (p + 1) m ((t : Int) - ((p + 1 : Nat) : Int)) else 0) := by
      rw [G_A]
      by_cases c : ((p + 1 : Nat) : Int) ≤ (t : Int)
      · rw [if_pos c]
      · rw [if_neg c, G_neg (p + 1) m _ (by omega)]
    -- told
    refine ⟨.int t, rfl, _, rfl, _, rfl, t, p + 1, m + 1, rfl, by omega, by omega, by omega, by omega, fun H4 s4 => ?_⟩
    refine ⟨_, rfl, .int t, rfl, _, rfl, _, rfl, t, m + 1, p + 1, rfl, by omega, by omega, by omega, by omega, fun H5 s5 => ⟨rfl, _, rfl, ?_⟩⟩
    rw [G_sym (m + 1) (p + 1), decide_eq_true rfl]
    refine iteF ⟨_, rfl, _, rfl, _, rfl, _, _, rfl, rfl, cm, .int t, rfl, _, _, rfl, rfl, _, rfl, _, rfl, _, p + 1, m + 1, rfl, (by show 0 ≤ ((p + 1 : Nat) : Int) * ((m + 1 : Nat) : Int) - t; omega), (by show ((p + 1 : Nat) : Int) * ((m + 1 : Nat) : Int) - t ≤ 1600; omega), by omega, by omega, fun H6 s6 => ⟨rfl, _, rfl, ?_⟩⟩
    rw [epm, hN, G_rev, decide_eq_true rfl]
    refine iteF ⟨.int t, rfl, _, rfl, _, _, rfl, rfl, _, rfl, t, p, m + 1, ?_, by omega, by omega, by omega, by omega, fun H7 s7 => ?_⟩
    · show [V.int t, V.int (((p + 1 : Nat) : Int) - 1), V.int ((m + 1 : Nat) : Int)] ++ [] = _
      rw [show ((p + 1 : Nat) : Int) - 1 = (p : Int) by omega]
      rfl
    refine ⟨_, rfl, _, rfl, .int t, rfl, _, rfl, _, _, rfl, rfl, _, rfl, ?_⟩
    have s37 : Same H3 H7 := (s4.trans s5).trans (s6.trans s7)
    by_cases c : ((p + 1 : Nat) : Int) ≤ (t : Int)
    · rw [decide_eq_true c]
      rw [if_pos c] at hG
      refine iteT ⟨.int t, rfl, _, rfl, _, _, rfl, rfl, _, rfl, _, rfl, _, _, rfl, rfl, _, p + 1, m, ?_, (by show 0 ≤ (t : Int) - ((p + 1 : Nat) : Int); omega), (by show (t : Int) - ((p + 1 : Nat) : Int) ≤ 1600; omega), by omega, by omega, fun H8 s8 => ⟨_, _, rfl, rfl, rfl, ?_⟩⟩
      · show [V.int ((t : Int) - ((p + 1 : Nat) : Int)), V.int ((p + 1 : Nat) : Int), V.int (((m + 1 : Nat) : Int) - 1)] ++ [] = _
        rw [show ((m + 1 : Nat) : Int) - 1 = (m : Int) by omega]
        rfl
      · show Q (.bl (decide (V.int (G (p + 1) (m + 1) t) = V.int (G p (m + 1) t + G (p + 1) m ((t : Int) - ((p + 1 : Nat) : Int)))))) H8
        rw [hG, decide_eq_true rfl]
        exact q H8 (s12.trans (s3.trans (Sx.of (s37.trans s8)))) (d3.same (s37.trans s8))
    · rw [decide_eq_false c]
      rw [if_neg c] at hG
      refine iteF ⟨_, _, rfl, rfl, rfl, ?_⟩
      show Q (.bl (decide (V.int (G (p + 1) (m + 1) t) = V.int (G p (m + 1) t + 0)))) H7
      rw [hG, decide_eq_true rfl]
      exact q H7 (s12.trans (s3.trans (Sx.of s37))) (d3.same s37)
end
end K26

set_option Elab.async false
set_option linter.all false
set_option maxRecDepth 100000
set_option maxHeartbeats 4000000
namespace K26
open PySem PySem.Spec PyProof.Rows L2 StX MyR
section
variable {P : Program} {w : World} {K : PySem.W.Frag} {mg : Str → Option Value} {base : Heap}
theorem ok_law_right (T : Facts K mg) : FnOk P w K mg base CX0 5 T.f_law_right T.fd_law_right ["_law_dice_here"] spRight := by
  have G_law_roll : FnOk P w K mg base CX0 1 T.f_law_roll T.fd_law_roll ["_law_dice_here", "_law_total"] spRoll2 := (ok_law_roll T).imp roll2
  have G_law_pick : FnOk P w K mg base CX0 2 T.f_law_pick T.fd_law_pick ["_law_dice_here", "_law_items"] spPick2 := (ok_law_pick T).imp pick2
  have G_box_count : FnOk P w K mg base CX0 4 T.f_box_count T.fd_box_count ["weight", "parts", "most"] spBoxCount := ok_box_count T
  have G_box_row : FnOk P w K mg base CX0 4 T.f_box_row T.fd_box_row ["parts", "most"] spBoxRow := ok_box_row T
  have G_law_rows_of : FnOk P w K mg base CX0 1 T.f_law_rows_of T.fd_law_rows_of ["_law_parts", "_law_most"] spBoxRow := ok_law_rows_of T
  have G_law_choose : FnOk P w K mg base CX0 1 T.f_law_choose T.fd_law_choose ["_law_many", "_law_few"] spChoose := ok_law_choose T
  refine T.F_law_right.ok sc_law_right (fun vs H Q E h => ?_) (fun cdv A outer s H vs Q E hr h => ?_)
  · obtain ⟨a, rfl, _⟩ := h
    rfl
  · obtain ⟨a, rfl, d0, q⟩ := h
    refine ⟨_, (PSs.nox (pss_cons (ps_par (i := 1) (j := 2) (by rfl) sc_law_right.nd rfl rfl (by decide) rfl rfl (pa_cons (pe_call G_law_pick (hr.mono (by decide)) (by rfl) T.g_law_pick T.F_law_pick.kp T.b_law_pick .nil pass0 (pa_cons (pv 0) (pa_cons (pe_lst (pa_cons (pe_call G_law_roll (hr.mono (by decide)) (by rfl) T.g_law_roll T.F_law_roll.kp T.b_law_roll .nil pass0 (pa_cons (pv 0) (pa_cons pe_int pa_nil))) (pa_cons (pe_call G_law_roll (hr.mono (by decide)) (by rfl) T.g_law_roll T.F_law_roll.kp T.b_law_roll .nil pass0 (pa_cons (pv 0) (pa_cons pe_int pa_nil))) pa_nil))) pa_nil))) (pa_cons (pe_call G_law_pick (hr.mono (by decide)) (by rfl) T.g_law_pick T.F_law_pick.kp T.b_law_pick .nil pass0 (pa_cons (pv 0) (pa_cons (pe_lst (pa_cons (pe_call G_law_roll (hr.mono (by decide)) (by rfl) T.g_law_roll T.F_law_roll.kp T.b_law_roll .nil pass0 (pa_cons (pv 0) (pa_cons pe_int pa_nil))) (pa_cons (pe_call G_law_roll (hr.mono (by decide)) (by rfl) T.g_law_roll T.F_law_roll.kp T.b_law_roll .nil pass0 (pa_cons (pv 0) (pa_cons pe_int pa_nil))) pa_nil))) pa_nil))) pa_nil)) (by rfl))
    (pss_cons (ps_par (i := 3) (j := 4) (by rfl) sc_law_right.nd rfl rfl (by decide) rfl rfl (pa_cons (pe_call G_law_rows_of (hr.mono (by decide)) (by rfl) T.g_law_rows_of T.F_law_rows_of.kp T.b_law_rows_of .nil pass0 (pa_cons (pv 1) (pa_cons (pv 2) pa_nil))) (pa_cons (pe_call G_box_row hr (by rfl) T.g_box_row T.F_box_row.kp T.b_box_row .nil pass0 (pa_cons (pv 1) (pa_cons (pv 2) pa_nil))) pa_nil)) (by rfl))
    (pss_cons (ps_if (pw_or (pt_cmpR (op_neD (hu64 hr)) (pv 4) (pv 3) (nomark _)) (pw_or (pt_cmpR (op_neD (hu64 hr)) (pe_call G_box_row hr (by rfl) T.g_box_row T.F_box_row.kp T.b_box_row .nil pass0 (pa_cons (pv 2) (pa_cons (pv 1) pa_nil))) (pv 3) (nomark _)) (pw_or (pt_cmpR (op_neD (hu64 hr)) (pe_revT (pv 4)) (pv 3) (nomark _)) (pw_or1 (pt_cmpR op_ne (pe_callB (cr_sumT (by rfl)) (by rfl) T.z_sum (by decide +kernel) (pa_cons (pv 4) pa_nil)) (pe_call G_law_choose (hr.mono (by decide)) (by rfl) T.g_law_choose T.F_law_choose.kp T.b_law_choose .nil pass0 (pa_cons (pe_op op_add (pv 1) (pv 2)) (pa_cons (pv 1) pa_nil))) (nomark _)))))).pt
      (pss_one (ps_ret pe_bl))
      pss_nil)
    (pss_cons (ps_for PassesOwn.never (by rfl) (pi_list (pe_lst (pa_cons pe_int (pa_cons (pe_op op_mul (pv 1) (pv 2)) (pa_cons (pe_call G_law_roll (hr.mono (by decide)) (by rfl) T.g_law_roll T.F_law_roll.kp T.b_law_roll .nil pass0 (pa_cons (pv 0) (pa_cons (pe_op op_add (pe_op op_mul (pv 1) (pv 2)) pe_int) pa_nil))) (pa_cons (pe_op op_add (pe_op op_mul (pv 1) (pv 2)) pe_int) (pa_cons pe_int pa_nil))))))) (pg_name (i := 5) sc_law_right.nd rfl (.inl rfl))
      (pss_one (ps_if (pt_cmpR op_ne (pe_call G_box_count hr (by rfl) T.g_box_count T.F_box_count.kp T.b_box_count .nil pass0 (pa_cons (pv 5) (pa_cons (pv 1) (pa_cons (pv 2) pa_nil)))) (pe_ifExp (pt_cmpR op_le (pv 5) (pe_op op_mul (pv 1) (pv 2)) (nomark _)) (pe_ix ix_tup (pv 3) (pv 5) (fun _ _ => rfl)) pe_int) (nomark _))
        (pss_one (ps_ret pe_bl))
        pss_nil)))
    (Evl.pss_cut (ps_if (pw_and (pt_cmpR op_gt (pv 1) pe_int (nomark _)) (pw_and1 (pt_cmpR op_gt (pv 2) pe_int (nomark _)))).pt
      (pss_cons (ps_set (i := 5) sc_law_right.nd rfl (.inl rfl) (pe_call G_law_roll (hr.mono (by decide)) (by rfl) T.g_law_roll T.F_law_roll.kp T.b_law_roll .nil pass0 (pa_cons (pv 0) (pa_cons (pe_op op_add (pe_op op_mul (pv 1) (pv 2)) pe_int) pa_nil))))
      (pss_cons (ps_set (i := 6) sc_law_right.nd rfl (.inl rfl) (pe_call G_box_count hr (by rfl) T.g_box_count T.F_box_count.kp T.b_box_count .nil pass0 (pa_cons (pv 5) (pa_cons (pe_op op_sub (pv 1) pe_int) (pa_cons (pv 2) pa_nil)))))
      (pss_one (ps_if (pt_cmpR op_ne (pe_call G_box_count hr (by rfl) T.g_box_count T.F_box_count.kp T.b_box_count .nil pass0 (pa_cons (pv 5) (pa_cons (pv 1) (pa_cons (pv 2) pa_nil)))) (pe_op op_add (pv 6) (pe_ifExp (pt_cmpR op_ge (pv 5) (pv 1) (nomark _)) (pe_call G_box_count hr (by rfl) T.g_box_count T.F_box_count.kp T.b_box_count .nil pass0 (pa_cons (pe_op op_sub (pv 5) (pv 1)) (pa_cons (pv 1) (pa_cons (pe_op op_sub (pv 2) pe_int) pa_nil)))) pe_int)) (nomark _))
        (pss_one (ps_ret pe_bl))
        pss_nil))))
      pss_nil)
    (pss_cons (ps_for PassesOwn.never (by rfl) (pi_range2 (by rfl) T.z_range (pa_cons pe_int (pa_cons (pe_op op_add (pe_op op_fdiv (pe_op op_mul (pv 1) (pv 2)) pe_int) pe_int) pa_nil))) (pg_name (i := 5) sc_law_right.nd rfl (.inl rfl))
      (pss_one (ps_if (pt_cmpR op_gt (pe_ix ix_tup (pv 4) (pe_op op_sub (pv 5) pe_int) (fun _ _ => rfl)) (pe_ix ix_tup (pv 4) (pv 5) (fun _ _ => rfl)) (nomark _))
        (pss_one (ps_ret pe_bl))
        pss_nil)))
    (pss_one (ps_ret pe_bl))))))))), ?_⟩
    have two : 2 ≤ sizeLine := by decide
    -- parts, most
    refine ⟨.ref a, rfl, .ref a, rfl, a, 6, rfl, d0, by decide, by decide, fun r1 H1 b1 s1 d1 => ⟨.ref a, rfl, a, 13, rfl, d1, by decide, by decide, fun r2 H2 b2 s2 d2 => ⟨two, fun l1 n1 => ⟨a, l1, _, rfl, d2.same (same_upd0 n1), upd_same, d2.ne n1, (by show 0 < 2; decide), (by show 2 < 1000; decide), fun v H3 hv s3 d3 => ?_⟩⟩⟩⟩
    obtain ⟨p, hp, rfl⟩ : ∃ p : Nat, p < 13 ∧ v = .int p := by
      rcases List.mem_cons.mp hv with e | hv
      · exact ⟨r1, by omega, e⟩
      · exact ⟨r2, by omega, List.mem_singleton.mp hv⟩
    refine ⟨.ref a, rfl, .ref a, rfl, a, 6, rfl, d3, by decide, by decide, fun r3 H4 b3 s4 d4 => ⟨.ref a, rfl, a, 13, rfl, d4, by decide, by decide, fun r4 H5 b4 s5 d5 => ⟨two, fun l2 n2 => ⟨a, l2, _, rfl, d5.same (same_upd0 n2), upd_same, d5.ne n2, (by show 0 < 2; decide), (by show 2 < 1000; decide), fun v H6 hv2 s6 d6 => ?_⟩⟩⟩⟩
    obtain ⟨m, hm, rfl⟩ : ∃ m : Nat, m < 13 ∧ v = .int m := by
      rcases List.mem_cons.mp hv2 with e | hv2
      · exact ⟨r3, by omega, e⟩
      · exact ⟨r4, by omega, List.mem_singleton.mp hv2⟩
    have s06 : Sx a H H6 := (s1.trans (s2.trans ((Sx.of (same_upd0 n1)).trans s3))).trans (s4.trans (s5.trans ((Sx.of (same_upd0 n2)).trans s6)))
    have hpm : p * m ≤ 12 * 12 := Nat.mul_le_mul (by omega) (by omega)
    have epm : (p : Int) * (m : Int) = ((p * m : Nat) : Int) := (Int.natCast_mul _ _).symm
    obtain ⟨N, hN⟩ : ∃ N, N = p * m := ⟨_, rfl⟩
    rw [← hN] at hpm epm
    have cm : CMul (p : Int) (m : Int) := .inl ⟨by omega, by omega⟩
    -- due, told
    refine ⟨_, _, rfl, .int p, rfl, .int m, rfl, p, m, rfl, by omega, by omega, fun t1 H7 s7 n7 h7 => ?_⟩
    refine ⟨.int p, rfl, .int m, rfl, p, m, rfl, by omega, by omega, fun t2 H8 s8 n8 h8 => ⟨_, _, rfl, ?_⟩⟩
    have h78 : H8 t1 = some (.tup ((rowI p m).map V.int)) := s8 _ _ h7
    have d8 := d6.same (s7.trans s8)
    have t1a : t1 ≠ a := fun e => by
      obtain ⟨x, y, z, e2⟩ := d8
      rw [e, e2] at h78
      cases h78
    have t2a : t2 ≠ a := fun e => by
      obtain ⟨x, y, z, e2⟩ := d8
      rw [e, e2] at h8
      cases h8
    have s08 : Sx a H H8 := s06.trans (Sx.of (s7.trans s8))
    -- the four ways
    refine ⟨.ref t2, rfl, .ref t1, rfl, ne_same (SqT.of h8) (SqT.of h78) ⟨_, rfl, iteF ?_⟩⟩
    refine ⟨.int m, rfl, .int p, rfl, m, p, rfl, by omega, by omega, fun t3 H9 s9 n9 h9 => ⟨.ref t1, rfl, ne_same (SqT.of (by rw [h9, rowI_sym])) (SqT.of (s9 _ _ h78)) ⟨_, rfl, iteF ?_⟩⟩⟩
    refine ⟨.ref t2, rfl, t2, _, rfl, SqT.of (s9 _ _ h8), fun t4 n10 => ⟨.ref t1, rfl, ne_same (SqT.of (by rw [upd_same, ← List.map_reverse, rowI_rev])) (SqT.of (same_upd0 n10 _ _ (s9 _ _ h78))) ⟨_, rfl, iteF ?_⟩⟩⟩
    obtain ⟨H10, eH10⟩ : ∃ H10, H10 = upd H9 t4 (.tup ((rowI p m).map V.int).reverse) := ⟨_, rfl⟩
    rw [← eH10]
    have s10 : Same H8 H10 := by
      rw [eH10]
      exact s9.trans (same_upd0 n10)
    refine ⟨.ref t2, rfl, t2, rowI p m, rfl, SqT.of (s10 _ _ h8), .int p, rfl, .int m, rfl, _, _, rfl, rfl, .int p, rfl, ((p + m : Nat) : Int), p, ?_, by omega, by omega, by omega, ⟨rfl, _, rfl, ?_⟩⟩
    · show [V.int ((p : Int) + (m : Int)), V.int p] ++ [] = _
      rw [Int.natCast_add]
      rfl
    rw [rowI_sum p m hp hm, decide_eq_true rfl]
    have h10 := s10 _ _ h8
    have h10' := s10 _ _ h78
    have d10 := d8.same s10
    -- the counts
    refine iteF ⟨.int p, rfl, .int m, rfl, _, _, rfl, rfl, cm, .ref a, rfl, .int p, rfl, .int m, rfl, _, _, rfl, rfl, cm, _, _, rfl, rfl, a, _, rfl, d10, (by show 0 < (p : Int) * (m : Int) + 1; omega), (by show (p : Int) * (m : Int) + 1 < 1073741824; omega), fun r H11 b11 s11 d11 => ?_⟩
    have b11' : (r : Int) < (p : Int) * (m : Int) + 1 := b11
    refine ⟨.int p, rfl, .int m, rfl, _, _, rfl, rfl, cm, _, _, rfl, rfl, (by show 5 ≤ sizeLine; decide), fun l3 n3 => ?_⟩
    have hL : (upd H11 l3 (.lst [.int 0, .int ((p : Int) * m), .int r, .int ((p : Int) * m + 1), .int 1600])) l3 = some (.lst ([0, (p : Int) * m, (r : Int), (p : Int) * m + 1, 1600].map V.int)) := upd_same
    have hts : ∀ H', Same (upd H11 l3 (.lst [.int 0, .int ((p : Int) * m), .int r, .int ((p : Int) * m + 1), .int 1600])) H' → SqT K H' t1 ((rowI p m).map V.int) ∧ SqT K H' t2 ((rowI p m).map V.int) := fun H' s => by
      have a1 := s11 _ _ t1a h10'
      have a2 := s11 _ _ t2a h10
      exact ⟨SqT.of (s _ _ (same_upd0 n3 _ _ a1)), SqT.of (s _ _ (same_upd0 n3 _ _ a2))⟩
    have d12 := d11.same (same_upd0 (o := .lst [.int 0, .int ((p : Int) * m), .int r, .int ((p : Int) * m + 1), .int 1600]) n3)
    have s012 : Sx a H (upd H11 l3 (.lst [.int 0, .int ((p : Int) * m), .int r, .int ((p : Int) * m + 1), .int 1600])) := s08.trans ((Sx.of s10).trans (s11.trans (Sx.of (same_upd0 n3))))
    obtain ⟨H12, eH12⟩ : ∃ H12, H12 = upd H11 l3 (.lst [.int 0, .int ((p : Int) * m), .int r, .int ((p : Int) * m + 1), .int 1600]) := ⟨_, rfl⟩
    rw [← eH12] at hL hts d12 s012
    have hcnt : ∀ n : Int, 0 ≤ n → n ≤ 1600 → (if n ≤ (N : Int) then (rowI p m).getD n.toNat 0 else 0) = G p m n := fun n h0 h1 => by
      rw [← rowI_count p m n, rowI_len, ← hN]
      by_cases c : n ≤ (N : Int)
      · rw [if_pos c, if_pos ⟨h0, by omega⟩]
      · rw [if_neg c, if_neg (by omega)]
    have hget : ∀ (K : PySem.W.Frag) (j : Nat), j ≤ N → ((rowI p m).map V.int)[j]? = some (.int (G p m j)) := fun _ j hj => by
      rw [List.getElem?_map, rowI_get (by omega)]
      rfl
    refine ⟨l3, rfl, ⟨_, SqL.of (eH12 ▸ hL)⟩, for_list (xs := [0, (p : Int) * m, (r : Int), (p : Int) * m + 1, 1600].map V.int) (fun i σ H' => (∃ y5, σ = [some (.ref a), some (.int p), some (.int m), some (.ref t1), some (.ref t2), y5, none]) ∧ Same H12 H') ⟨⟨none, rfl⟩, by rw [eH12]; exact Same.refl _⟩ (fun i σ H' _ hP => hP.2.seq (SqL.of hL)) (fun i x σ H' hx hP => ?_) (fun σ H' hP => ?_)⟩
    · obtain ⟨⟨y5, rfl⟩, s13⟩ := hP
      obtain ⟨n, h0, h1, rfl⟩ : ∃ n : Int, 0 ≤ n ∧ n ≤ 1600 ∧ x = .int n := by
        have hm := List.mem_of_getElem? hx
        obtain ⟨n, hn, e⟩ := List.mem_map.mp hm
        refine ⟨n, ?_, ?_, e.symm⟩
        · simp only [List.mem_cons, List.not_mem_nil, or_false] at hn
          omega
        · simp only [List.mem_cons, List.not_mem_nil, or_false] at hn
          omega
      refine ⟨.int n, rfl, .int p, rfl, .int m, rfl, n, p, m, rfl, h0, h1, by omega, by omega, fun H14 s14 => ?_⟩
      refine ⟨.int n, rfl, .int p, rfl, .int m, rfl, _, _, rfl, rfl, cm, _, _, rfl, rfl, _, rfl, ?_⟩
      have hc := hcnt n h0 h1
      have hc2 := hts H14 (s13.trans s14)
      by_cases c : n ≤ (p : Int) * (m : Int)
      · rw [decide_eq_true c]
        rw [epm] at c
        rw [if_pos c] at hc
        obtain ⟨j, rfl⟩ := Int.eq_ofNat_of_zero_le h0
        refine iteT ⟨_, rfl, _, rfl, t1, _, j, _, rfl, rfl, hc2.1, atI_nat (hget K j (by omega)), rfl, _, rfl, ?_⟩
        rw [decide_eq_true rfl]
        exact iteF ⟨⟨_, rfl⟩, s13.trans s14⟩
      · rw [decide_eq_false c]
        rw [epm] at c
        rw [if_neg c] at hc
        refine iteF ⟨rfl, _, rfl, ?_⟩
        rw [← hc, decide_eq_true rfl]
        exact iteF ⟨⟨_, rfl⟩, s13.trans s14⟩
    · obtain ⟨⟨y5, rfl⟩, s13⟩ := hP
      have s013 : Sx a H H' := s012.trans (Sx.of s13)
      have d13 := d12.same s13
      refine ⟨fun σ H' => ∃ y5 y6, σ = [some (.ref a), some (.int p), some (.int m), some (.ref t1), some (.ref t2), y5, y6] ∧ Sx a H H' ∧ Dc H' a ∧ SqT K H' t2 ((rowI p m).map V.int), ?_, fun σ H' hM => ?_⟩
      · refine ⟨.int p, rfl, _, _, rfl, rfl, _, rfl, ?_⟩
        have hT := (hts H' s13).2
        by_cases c1 : 0 < (p : Int)
        · rw [decide_eq_true c1]
          refine iteT ⟨.int m, rfl, _, _, rfl, rfl, _, rfl, ?_⟩
          by_cases c2 : 0 < (m : Int)
          · rw [decide_eq_true c2]
            refine iteT ⟨.ref a, rfl, .int p, rfl, .int m, rfl, _, _, rfl, rfl, cm, _, _, rfl, rfl, a, _, rfl, d13, (by show 0 < (p : Int) * (m : Int) + 1; omega), (by show (p : Int) * (m : Int) + 1 < 1073741824; omega), fun t H14 b14 s14 d14 => ?_⟩
            have b14' : (t : Int) < (p : Int) * (m : Int) + 1 := b14
            have h14 : SqT K H14 t2 ((rowI p m).map V.int) := by
              have a2 := s13 _ _ (by rw [eH12]; exact same_upd0 n3 _ _ (s11 _ _ t2a h10))
              exact SqT.of (s14 _ _ t2a a2)
            have e14 : H14 t2 = some (.tup ((rowI p m).map V.int)) := s14 _ _ t2a (s13 _ _ (by rw [eH12]; exact same_upd0 n3 _ _ (s11 _ _ t2a h10)))
            obtain ⟨p', rfl⟩ : ∃ p', p = p' + 1 := ⟨p - 1, by omega⟩
            obtain ⟨m', rfl⟩ : ∃ m', m = m' + 1 := ⟨m - 1, by omega⟩
            have hG : G (p' + 1) (m' + 1) t = G p' (m' + 1) t + (if ((p' + 1 : Nat) : Int) ≤ (t : Int) then G (p' + 1) m' ((t : Int) - ((p' + 1 : Nat) : Int)) else 0) := by
              rw [G_A]
              by_cases c : ((p' + 1 : Nat) : Int) ≤ (t : Int)
              · rw [if_pos c]
              · rw [if_neg c, G_neg (p' + 1) m' _ (by omega)]
            refine ⟨.int t, rfl, _, rfl, _, _, rfl, rfl, _, rfl, t, p', m' + 1, ?_, by omega, by omega, by omega, by omega, fun H15 s15 => ?_⟩
            · show [V.int t, V.int (((p' + 1 : Nat) : Int) - 1), V.int ((m' + 1 : Nat) : Int)] ++ [] = _
              rw [show ((p' + 1 : Nat) : Int) - 1 = (p' : Int) by omega]
              rfl
            refine ⟨.int t, rfl, _, rfl, _, rfl, t, p' + 1, m' + 1, rfl, by omega, by omega, by omega, by omega, fun H16 s16 => ⟨_, rfl, .int t, rfl, _, rfl, _, _, rfl, rfl, _, rfl, ?_⟩⟩
            have fin : ∀ H17, Same H16 H17 → Sx a H H17 ∧ Dc H17 a ∧ SqT K H17 t2 ((rowI (p' + 1) (m' + 1)).map V.int) := fun H17 s17 => by
              have st : Same H14 H17 := s15.trans (s16.trans s17)
              exact ⟨s013.trans (s14.trans (Sx.of st)), d14.same st, SqT.of (st _ _ e14)⟩
            by_cases c : ((p' + 1 : Nat) : Int) ≤ (t : Int)
            · rw [decide_eq_true c]
              rw [if_pos c] at hG
              refine iteT ⟨.int t, rfl, _, rfl, _, _, rfl, rfl, _, rfl, _, rfl, _, _, rfl, rfl, _, p' + 1, m', ?_, (by show 0 ≤ (t : Int) - ((p' + 1 : Nat) : Int); omega), (by show (t : Int) - ((p' + 1 : Nat) : Int) ≤ 1600; omega), by omega, by omega, fun H17 s17 => ⟨_, _, rfl, rfl, rfl, _, rfl, ?_⟩⟩
              · show [V.int ((t : Int) - ((p' + 1 : Nat) : Int)), V.int ((p' + 1 : Nat) : Int), V.int (((m' + 1 : Nat) : Int) - 1)] ++ [] = _
                rw [show ((m' + 1 : Nat) : Int) - 1 = (m' : Int) by omega]
                rfl
              · rw [hG, decide_eq_true rfl]
                exact iteF ⟨_, _, rfl, fin H17 s17⟩
            · rw [decide_eq_false c]
              rw [if_neg c] at hG
              refine iteF ⟨_, _, rfl, rfl, rfl, _, rfl, ?_⟩
              rw [hG, decide_eq_true rfl]
              exact iteF ⟨_, _, rfl, fin H16 (Same.refl _)⟩
          · rw [decide_eq_false c2]
            exact iteF ⟨_, _, rfl, s013, d13, hT⟩
        · rw [decide_eq_false c1]
          exact iteF ⟨_, _, rfl, s013, d13, hT⟩
      · obtain ⟨y5, y6, rfl, s20, d20, h20⟩ := hM
        have hdiv : (p : Int) * (m : Int) / 2 = ((p * m / 2 : Nat) : Int) := by
          rw [epm, hN]
          omega
        refine ⟨.int p, rfl, .int m, rfl, _, _, rfl, rfl, cm, _, _, rfl, rfl, ⟨by decide, by decide⟩, _, _, rfl, rfl, 1, _, rfl, ⟨by decide, by decide, (by show -(2 ^ 62) ≤ (p : Int) * (m : Int) / 2 + 1; omega), (by show (p : Int) * (m : Int) / 2 + 1 < 2 ^ 62; omega)⟩, for_range (n := ((p : Int) * (m : Int) / 2 + 1 - 1).toNat) (fun i σ H3 => (∃ y5 y6, σ = [some (.ref a), some (.int p), some (.int m), some (.ref t1), some (.ref t2), y5, y6]) ∧ H3 = H') ⟨⟨_, _, rfl⟩, rfl⟩ (fun i σ H3 hi hP => ?_) (fun σ H3 hP => ?_)⟩
        · obtain ⟨⟨y5, y6, rfl⟩, rfl⟩ := hP
          have hi' : i + 1 ≤ p * m / 2 := by omega
          have h2 : p * m / 2 ≤ p * m := Nat.div_le_self _ _
          have e1 : 1 + (i : Int) - 1 = ((i : Nat) : Int) := by omega
          have e2 : 1 + (i : Int) = ((i + 1 : Nat) : Int) := by omega
          refine ⟨_, rfl, _, rfl, _, _, rfl, rfl, t2, _, _, _, rfl, rfl, h20, at_of e1 (hget K i (by omega)), _, rfl, _, rfl, t2, _, _, _, rfl, rfl, h20, at_of e2 (hget K (i + 1) (by omega)), _, _, rfl, rfl, _, rfl, ?_⟩
          have hu := uni p m hp hm i hi'
          rw [decide_eq_false (by omega)]
          exact iteF ⟨⟨_, _, rfl⟩, rfl⟩
        · obtain ⟨⟨y5, y6, rfl⟩, rfl⟩ := hP
          exact q H3 s20 d20
end
end K26

set_option Elab.async false
set_option linter.all false
set_option maxRecDepth 100000
set_option maxHeartbeats 4000000
namespace K26
open PySem PySem.Spec PyProof.Rows L2 StX MyR
theorem script_Sx {K : PySem.W.Frag} {d a : Addr} {H H' : Hp} {o : HO} {xs : List V} (s : Sx d (upd H d o) H') (n : H d = none) (h : SqL K H a xs) : SqL K H' a xs := by
  rcases h with (h | ⟨u, h⟩) | h
  · have ne : a ≠ d := ne_of_none h n
    exact .inl (.inl (s a _ ne (by rw [upd_ne ne]; exact h)))
  · have ne : a ≠ d := ne_of_none h n
    exact .inl (.inr ⟨u, s a _ ne (by rw [upd_ne ne]; exact h)⟩)
  · exact .inr h
section
variable {P : Program} {w : World} {K : PySem.W.Frag} {mg : Str → Option Value} {base : Heap}
def spLaw (K : PySem.W.Frag) : Sp := fun vs H Q _ => ∃ (a : Addr) (ns : List Int), vs = [.ref a] ∧ SqL K H a (ns.map V.int) ∧ ns.length ≤ 63 ∧ ∀ H', Q (.bl true) H'
theorem ok_law (T : Facts K mg) : FnOk P w K mg base CX0 6 T.f_law T.fd_law ["_law_script"] (spLaw K) := by
  have G_law_dice : FnOk P w K mg base CX0 1 T.f_law_dice T.fd_law_dice ["_law_script", "_law_spot"] (spDice K) := ok_law_dice T
  have G_law_right : FnOk P w K mg base CX0 5 T.f_law_right T.fd_law_right ["_law_dice_here"] spRight := ok_law_right T
  have G_law_great_right : FnOk P w K mg base CX0 5 T.f_law_great_right T.fd_law_great_right ["_law_dice_here"] spRight := ok_law_great_right T
  have G_box_count : FnOk P w K mg base CX0 4 T.f_box_count T.fd_box_count ["weight", "parts", "most"] spBoxCount := ok_box_count T
  have G_box_row : FnOk P w K mg base CX0 4 T.f_box_row T.fd_box_row ["parts", "most"] spBoxRow := ok_box_row T
  refine T.F_law.ok sc_law (fun vs H Q E h => ?_) (fun cdv A outer s H vs Q E hr h => ?_)
  · obtain ⟨a, ns, rfl, _⟩ := h
    rfl
  · obtain ⟨a, ns, rfl, hS, hlen, q⟩ := h
    refine ⟨_, (PSs.nox (pss_cons (ps_for PassesOwn.never (by rfl) (pi_range1 (by rfl) T.z_range (pa_cons (pe_callB (call_max2 (by rfl)) (by rfl) T.z_max (by decide +kernel) (pa_cons pe_int (pa_cons (pe_callB (call_min2 (by rfl)) (by rfl) T.z_min (by decide +kernel) (pa_cons pe_int (pa_cons (pe_callB call_len_seq (by rfl) T.z_len (by decide +kernel) (pa_cons (pv 0) pa_nil)) pa_nil))) pa_nil))) pa_nil)) (pg_name (i := 1) sc_law.nd rfl (.inl rfl))
      (pss_cons (ps_set (i := 2) sc_law.nd rfl (.inl rfl) (pe_call G_law_dice (hr.mono (by decide)) (by rfl) T.g_law_dice T.F_law_dice.kp T.b_law_dice .nil pass0 (pa_cons (pv 0) (pa_cons (pv 1) pa_nil))))
      (pss_one (ps_if (pw_or (pt_not (pt_val (pe_call G_law_right hr (by rfl) T.g_law_right T.F_law_right.kp T.b_law_right .nil pass0 (pa_cons (pv 2) pa_nil)))) (pw_or1 (pt_not (pt_val (pe_call G_law_great_right hr (by rfl) T.g_law_great_right T.F_law_great_right.kp T.b_law_great_right .nil pass0 (pa_cons (pv 2) pa_nil)))))).pt
        (pss_one (ps_ret pe_bl))
        pss_nil))))
    (pss_cons (ps_set (i := 3) sc_law.nd rfl (.inl rfl) (pe_lst (pa_cons (pe_call G_box_row (hr.mono (by decide)) (by rfl) T.g_box_row T.F_box_row.kp T.b_box_row .nil pass0 (pa_cons pe_int (pa_cons pe_int pa_nil))) (pa_cons (pe_call G_box_row (hr.mono (by decide)) (by rfl) T.g_box_row T.F_box_row.kp T.b_box_row .nil pass0 (pa_cons pe_int (pa_cons pe_int pa_nil))) (pa_cons (pe_call G_box_row (hr.mono (by decide)) (by rfl) T.g_box_row T.F_box_row.kp T.b_box_row .nil pass0 (pa_cons pe_int (pa_cons pe_int pa_nil))) (pa_cons (pe_call G_box_count (hr.mono (by decide)) (by rfl) T.g_box_count T.F_box_count.kp T.b_box_count .nil pass0 (pa_cons pe_int (pa_cons pe_int (pa_cons pe_int pa_nil)))) (pa_cons (pe_call G_box_count (hr.mono (by decide)) (by rfl) T.g_box_count T.F_box_count.kp T.b_box_count .nil pass0 (pa_cons pe_int (pa_cons pe_int (pa_cons pe_int pa_nil)))) (pa_cons (pe_call G_box_count (hr.mono (by decide)) (by rfl) T.g_box_count T.F_box_count.kp T.b_box_count .nil pass0 (pa_cons pe_int (pa_cons pe_int (pa_cons pe_int pa_nil)))) pa_nil))))))))
    (pss_one (ps_ret (pe_and (pe_cmpR (op_eqD (hu64 hr)) (pv 3) (pe_lst (pa_cons (pe_tup (pa_cons pe_int (pa_cons pe_int (pa_cons pe_int (pa_cons pe_int (pa_cons pe_int (pa_cons pe_int (pa_cons pe_int pa_nil)))))))) (pa_cons (pe_tup (pa_cons pe_int pa_nil)) (pa_cons (pe_tup (pa_cons pe_int pa_nil)) (pa_cons pe_int (pa_cons pe_int (pa_cons pe_int pa_nil))))))) (nomark _)) (pe_one (pe_cmpR op_eq (pe_call G_box_count (hr.mono (by decide)) (by rfl) T.g_box_count T.F_box_count.kp T.b_box_count .nil pass0 (pa_cons pe_int (pa_cons pe_int (pa_cons pe_int pa_nil)))) pe_int (nomark _))))))))), ?_⟩
    refine ⟨.ref a, rfl, a, _, rfl, .inl hS, 4, _, rfl, 1, _, rfl, _, rfl, ?_⟩
    rw [List.length_map]
    obtain ⟨n, hn, hn0⟩ : ∃ n : Int, (if (if ((ns.length : Nat) : Int) < 4 then ((ns.length : Nat) : Int) else 4) > 1 then (if ((ns.length : Nat) : Int) < 4 then ((ns.length : Nat) : Int) else 4) else 1) = n ∧ 0 ≤ n ∧ n ≤ 4 := ⟨_, rfl, by split <;> split <;> omega, by split <;> split <;> omega⟩
    rw [hn]
    refine ⟨by omega, by omega, for_range (n := n.toNat) (fun i σ H' => ∃ y1 y2, σ = [some (.ref a), y1, y2, none] ∧ SqL K H' a (ns.map V.int)) ⟨none, none, rfl, hS⟩ (fun i σ H1 hi hP => ?_) (fun σ H1 hP => ?_)⟩
    · obtain ⟨y1, y2, rfl, h1⟩ := hP
      refine ⟨.ref a, rfl, _, rfl, a, ns, i, ?_, h1, fun d x y z nd => ?_⟩
      · show [V.ref a, V.int (0 + (i : Int))] ++ [] = _
        rw [Int.zero_add]
        rfl
      have d1 : Dc (upd H1 d (dice x y z)) d := ⟨x, y, z, upd_same⟩
      refine ⟨.ref d, rfl, d, rfl, d1, fun H2 s2 d2 => ⟨true, rfl, iteF ?_⟩⟩
      refine ⟨.ref d, rfl, d, rfl, d2, fun H3 s3 d3 => ⟨true, rfl, iteF ?_⟩⟩
      exact ⟨_, _, rfl, script_Sx (s2.trans s3) nd h1⟩
    · obtain ⟨y1, y2, rfl, h1⟩ := hP
      refine ⟨2, 3, rfl, by omega, by omega, fun t1 H2 s2 n2 e2 => ?_⟩
      refine ⟨4, 0, rfl, by omega, by omega, fun t2 H3 s3 n3 e3 => ?_⟩
      refine ⟨0, 0, rfl, by omega, by omega, fun t3 H4 s4 n4 e4 => ?_⟩
      refine ⟨30, 10, 6, rfl, by omega, by omega, by omega, by omega, fun H5 s5 => ?_⟩
      refine ⟨7, 2, 3, rfl, by omega, by omega, by omega, by omega, fun H6 s6 => ?_⟩
      refine ⟨0, 0, 40, rfl, by omega, by omega, by omega, by omega, fun H7 s7 => ?_⟩
      rw [rowI_23] at e2
      rw [rowI_40] at e3
      rw [rowI_00] at e4
      refine ⟨by show 6 ≤ sizeLine; decide, fun l nl => ?_⟩
      have k1 : H7 t1 = some (.tup ([1, 1, 2, 2, 2, 1, 1].map V.int)) := s7 _ _ (s6 _ _ (s5 _ _ (s4 _ _ (s3 _ _ e2))))
      have k2 : H7 t2 = some (.tup ([1].map V.int)) := s7 _ _ (s6 _ _ (s5 _ _ (s4 _ _ e3)))
      have k3 : H7 t3 = some (.tup ([1].map V.int)) := s7 _ _ (s6 _ _ (s5 _ _ e4))
      rw [G_106, G_237, G_0040]
      have s8 : Same H7 (upd H7 l (.lst [.ref t1, .ref t2, .ref t3, .int 338, .int 0, .int 1])) := same_upd0 nl
      have k0 : (upd H7 l (.lst [.ref t1, .ref t2, .ref t3, .int 338, .int 0, .int 1])) l = some (.lst [.ref t1, .ref t2, .ref t3, .int 338, .int 0, .int 1]) := upd_same
      obtain ⟨H8, eH8⟩ : ∃ H8, H8 = upd H7 l (.lst [.ref t1, .ref t2, .ref t3, .int 338, .int 0, .int 1]) := ⟨_, rfl⟩
      rw [← eH8] at s8 k0 ⊢
      refine ⟨.ref l, rfl, by show 7 ≤ sizeLine; decide, fun p1 m1 => ⟨by show 1 ≤ sizeLine; decide, fun p2 m2 => ⟨by show 1 ≤ sizeLine; decide, fun p3 m3 => ⟨by show 6 ≤ sizeLine; decide, fun p4 m4 => ?_⟩⟩⟩⟩
      have u1 := same_upd0 (o := .tup [.int 1, .int 1, .int 2, .int 2, .int 2, .int 1, .int 1]) m1
      have u2 := same_upd0 (o := .tup [.int 1]) m2
      have u3 := same_upd0 (o := .tup [.int 1]) m3
      have u4 := same_upd0 (o := .lst [.ref p1, .ref p2, .ref p3, .int 338, .int 0, .int 1]) m4
      refine ⟨.list [.tuple ([1, 1, 2, 2, 2, 1, 1].map PyData.int), .tuple ([1].map PyData.int), .tuple ([1].map PyData.int), .int 338, .int 0, .int 1], .list [.tuple ([1, 1, 2, 2, 2, 1, 1].map PyData.int), .tuple ([1].map PyData.int), .tuple ([1].map PyData.int), .int 338, .int 0, .int 1], ?_, ?_, by decide, by decide, true, by rfl, iteT ?_⟩
      · have st : Same H8 _ := u1.trans (u2.trans (u3.trans u4))
        exact .lst (SqL.of (st _ _ k0)) (.cons (.tup (SqT.of (st _ _ (s8 _ _ k1))) (dpAll_ints _)) (.cons (.tup (SqT.of (st _ _ (s8 _ _ k2))) (dpAll_ints _)) (.cons (.tup (SqT.of (st _ _ (s8 _ _ k3))) (dpAll_ints _)) (.cons (.int _) (.cons (.int _) (.cons (.int _) .nil))))))
      · exact .lst (SqL.of upd_same) (.cons (.tup (SqT.of (u4 _ _ (u3 _ _ (u2 _ _ upd_same)))) (dpAll_ints [1, 1, 2, 2, 2, 1, 1])) (.cons (.tup (SqT.of (u4 _ _ (u3 _ _ upd_same))) (dpAll_ints [1])) (.cons (.tup (SqT.of (u4 _ _ upd_same)) (dpAll_ints [1])) (.cons (.int _) (.cons (.int _) (.cons (.int _) .nil))))))
      · refine ⟨800, 40, 40, rfl, by omega, by omega, by omega, by omega, fun H9 s9 => ⟨rfl, ?_⟩⟩
        rw [G_40]
        exact q H9
end
end K26

set_option Elab.async false
set_option linter.all false
set_option maxRecDepth 100000
set_option maxHeartbeats 0
namespace K26
open PySem PySem.Spec PyProof.Rows L2
abbrev R : PySem.W.OpenRow := PySem.W.OpenLaw.row PySem.Challenge.rw_sourceforms_k26_whole_counts_of_boxes
abbrev hk : PySem.W.Hook := He.hookD 4 faL fnL
def ob (s : PySem.W.SharedT) : He.AlD := He.obsDG 4 faL fnL (HandSHeadRun.getT s)
theorem ob_eq (s : PySem.W.SharedT) : ob s = hk.obs s.abs := He.obsDG_eq (HandSHeadRun.getT_eq s)
def loose : List Str := ["InvalidNumber", "is_whole", "is_from", "MAX_PARTS", "MAX_WEIGHT", "row_in", "count_in", "require_part", "require_weight", "box_count", "box_row", "_law_dice", "_law_roll", "_law_pick", "_law_choose", "_law_rows_of", "_law_right", "_law_great_right"]
theorem run (w : World) : HandSHeadRun.RunEq R (PySem.W.view R.prog [22]) hk ob 2000 loose w := by
  intro os
  kernel_rfl
end K26

set_option Elab.async false
set_option linter.all false
set_option maxRecDepth 100000
set_option maxHeartbeats 0
namespace K26
open PySem PySem.Spec PyProof.Rows L2
theorem facts {P : Program} {w : World} {K : PySem.W.Frag} {h : Heap} {mg : Str → Option Value} {f : Addr} (X : K.In h) (G : h.Ns mainGlobals mg) (hfa : mg ("law" : Str) = some (.ref f)) (c : He.SaysD faL fnL K) :
    ∃ fd : FuncData, (∀ (s : Shared) (v : Value), BindsTo s fd ⟨[v], []⟩ [("_law_script", v)]) ∧ ∀ base : Heap, K.In base → base.Ns mainGlobals mg → FnOk P w K mg base CX0 6 f fd ["_law_script"] (spLaw K) := by
  obtain ⟨T⟩ := facts_of X G c
  have e := hfa.symm.trans T.g_law
  cases e
  have b := FunD.bindsA (ps := ["_law_script"]) T.F_law fun _ _ _ _ _ _ us hl => match us, hl with | [_], _ => rfl
  exact ⟨T.fd_law, fun s v => b s [v] rfl, fun base _ _ => ok_law T⟩
end K26
open PySem PySem.W PySem.Calls PyProof.Rows
theorem PySem.Challenge.cw_sourceforms_k26_whole_counts_of_boxes_holds : PySem.Challenge.rw_sourceforms_k26_whole_counts_of_boxes.Holds := by
  w_on; o_law
  refine HandSHeadRun.head_any (r := OpenLaw.row PySem.Challenge.rw_sourceforms_k26_whole_counts_of_boxes) (q := view (OpenLaw.row PySem.Challenge.rw_sourceforms_k26_whole_counts_of_boxes).prog [22]) (H := K26.hk) (ob := K26.ob) (M := 2000) (loose := K26.loose) (d := HandSHeadRun.topDef (OpenLaw.row PySem.Challenge.rw_sourceforms_k26_whole_counts_of_boxes).prog 22) (kwd := []) K26.ob_eq
    (by kernel_rfl) (fun s => by kernel_rfl) K26.run (by kernel_rfl) (by kernel_rfl) (by kernel_rfl) (by rfl) (by first | assumption | decide +kernel) (by decide +kernel) ⟨rfl, rfl, rfl, rfl, rfl, by decide +kernel⟩ ?hw ?hc
  case hw => w_witness2
  case hc =>
    refine L2.walk_ofE (l := PySem.Challenge.rw_sourceforms_k26_whole_counts_of_boxes) (n := 63) (k := 6) (x := "_law_script") (CX := L2.CX0) rfl (by decide) (by kernel_rfl) ⟨rfl, by decide, by decide⟩ ?F (fun _ _ _ _ z => z)
    intro w mg fa h Y G hmg0
    obtain ⟨K, KX, c⟩ := Y
    have hmg : mg ("law" : PySem.Str) = some (.ref fa) := by
      have e : (HandSHeadRun.topDef (OpenLaw.row PySem.Challenge.rw_sourceforms_k26_whole_counts_of_boxes).prog 22).name = ("law" : PySem.Str) := by kernel_rfl
      rw [← e]
      exact hmg0
    obtain ⟨fd, hb, hF⟩ := K26.facts (P := (PySem.Challenge.rw_sourceforms_k26_whole_counts_of_boxes).prog) (w := w) KX G hmg c
    exact ⟨K, fd, K26.spLaw K, KX, hb, fun H a ns hl _ hS => ⟨a, ns, rfl, hS, hl, fun _ => rfl⟩, hF⟩
