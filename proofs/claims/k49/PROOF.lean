import PyProof.Rows.All
import Wide.All
import OpenK.AllK
import Wide.FinOn
import HandS.ForMost
import HandS.Codes
import HandS.Conv
import HandS.Defaults
import HandS.Deep
import HandS.Flow
import HandS.IsInst
import HandS.SortKw
import HandS.Star
import HandS.Style
import HandS.TupAny
import HandS.TupMul
import HandS.Walk
import HandS.Wide
import HandS.Zip
import HandS.Steps
import HandS.Evl
import HandS.DictComp
import HandS.HeadEnd
import HandS.HeadHook1
import HandS.HeadHook2
import HandS.Head0
import HandS.Head1
import HandS.Head2
import HandS.EndTab
import KE.GoesZip
import KE.GoesMore
import KE.KDictZip
import PyProof.ListNew
import HandS.Keys
import KE.KDictKeyed
import KE.KeyNested
import HandS.TupLen
import KE.KMinKey
import KE.KLam
import HandS.Lambda
import KE.SortData
import HandS.Nested
import HandS.ClsMeth
import KE.KSuper
import PySem.Challenge.RW_toldenough_k49_whole_labelings_counted
set_option Elab.async false
set_option linter.all false
set_option maxRecDepth 100000
set_option maxHeartbeats 0
namespace K49
open PySem PySem.Spec PyProof.Rows L2
open C8 (Cal Met Mak pe_c pe_mk pe_mt pe_mt0 pe_gc)
def top (i : Nat) : Stmt := PySem.Challenge.pw_toldenough_k49_whole_labelings_counted.main.body.getD i (.Pass ⟨0, 0, 0, 0⟩)
abbrev s_is_integer : Stmt := top 12
abbrev s_is_list : Stmt := top 13
abbrev s_is_point : Stmt := top 14
abbrev s_check_places : Stmt := top 16
abbrev s_check_point : Stmt := top 17
abbrev s_parts_of : Stmt := top 18
abbrev s_all_parts : Stmt := top 19
abbrev s_is_example : Stmt := top 25
abbrev s_checked_rows : Stmt := top 26
abbrev s_view_of : Stmt := top 29
abbrev s_has_rule : Stmt := top 30
abbrev s_checked_points : Stmt := top 32
abbrev s_is_given : Stmt := top 33
abbrev s_labelings : Stmt := top 34
abbrev s_is_shattered : Stmt := top 35
abbrev s_shattered : Stmt := top 36
abbrev s_dimension : Stmt := top 37
abbrev s_least_price : Stmt := top 40
abbrev s_with_label : Stmt := top 42
abbrev s_judge_half : Stmt := top 43
abbrev s_box_bounds : Stmt := top 58
abbrev s_is_inside : Stmt := top 59
abbrev s_judge_box : Stmt := top 60
abbrev s_cleared_row : Stmt := top 65
abbrev s_reduced_rows : Stmt := top 66
abbrev s_span_rows : Stmt := top 67
abbrev s_weights_for : Stmt := top 68
abbrev s_judge_flat : Stmt := top 71
abbrev s_is_below : Stmt := top 75
abbrev s_judge_rise : Stmt := top 76
abbrev s_in_order : Stmt := top 88
abbrev s_judge_turns : Stmt := top 89
abbrev s_agree : Stmt := top 108
abbrev s_first_part : Stmt := top 109
abbrev s_teaching_number : Stmt := top 110
abbrev s_checked_prices : Stmt := top 113
abbrev s_halved : Stmt := top 114
abbrev s_cheapest : Stmt := top 115
abbrev s_asked : Stmt := top 116
abbrev s_asks : Stmt := top 117
abbrev s_depth_of : Stmt := top 119
abbrev s_mistakes : Stmt := top 120
abbrev s_law_source : Stmt := top 122
abbrev s_law_draw : Stmt := top 123
abbrev s_law_mixed : Stmt := top 124
abbrev s_law_same : Stmt := top 125
abbrev s_law_choices : Stmt := top 126
abbrev s_law_halvings : Stmt := top 127
abbrev s_law_rises : Stmt := top 128
abbrev s_law_curved : Stmt := top 129
abbrev s_law_halves_of : Stmt := top 130
abbrev s_law_flats_of : Stmt := top 131
abbrev s_law_in_row_right : Stmt := top 132
abbrev s_law_apart_right : Stmt := top 133
abbrev s_law_turns_right : Stmt := top 134
abbrev s_law : Stmt := top 135
abbrev s_Sample_init : Stmt := inClass (top 27) 0
abbrev s_Sample_examples : Stmt := inClass (top 27) 1
abbrev s_Table_init : Stmt := inClass (top 39) 0
abbrev s_Table_pivot : Stmt := inClass (top 39) 1
abbrev s_Table_cleared : Stmt := inClass (top 39) 2
abbrev s_Table_improve : Stmt := inClass (top 39) 3
abbrev s_Table_leaving : Stmt := inClass (top 39) 4
abbrev s_Table_leave_artificial : Stmt := inClass (top 39) 5
abbrev s_Kind_init : Stmt := inClass (top 95) 0
abbrev s_Halves_judge : Stmt := inClass (top 96) 3
abbrev s_Boxes_judge : Stmt := inClass (top 97) 3
abbrev s_Rising_judge : Stmt := inClass (top 98) 3
abbrev s_Flats_judge : Stmt := inClass (top 99) 3
abbrev s_Turns_init : Stmt := inClass (top 100) 0
abbrev s_Turns_judge : Stmt := inClass (top 100) 4
/-- names of the module that the walk asks for -/
structure Txt (mg : Str → Option Value) : Prop where
  b_isinstance : mg "isinstance" = none
  b_int : mg "int" = none
  b_bool : mg "bool" = none
  b_list : mg "list" = none
  b_tuple : mg "tuple" = none
  b_len : mg "len" = none
  b_all : mg "all" = none
  b_any : mg "any" = none
  b_range : mg "range" = none
  b_enumerate : mg "enumerate" = none
  b_zip : mg "zip" = none
  b_sorted : mg "sorted" = none
  b_min : mg "min" = none
  b_max : mg "max" = none
  b_sum : mg "sum" = none
  b_super : mg "super" = none
  MOST_PLACES : ∃ u, mg "MOST_PLACES" = some u ∧ RelV (.int 3) u
  MOST_TURNS : ∃ u, mg "MOST_TURNS" = some u ∧ RelV (.int 6) u
/-- a def of the module: ps its parameters, vds what fills up where an argument lacks -/
structure Dfn (K : PySem.W.Frag) (mg : Str → Option Value) (x : Str) (st : Stmt) (ps : List Str) (vds : List V) : Prop where
  ex : ∃ (f : Addr) (fd : FuncData) (dvs : List V) (kws : List (Str × V)) (ds : List Value), FunD K x x (defArgs st) (defBody st) (defScope st) dvs kws f fd ∧ mg x = some (.ref f) ∧ Binds K fd ps ds ∧ Vals vds ds
/-- a method -/
structure Mth (K : PySem.W.Frag) (C : Addr) (m qual : Str) (st : Stmt) (ps : List Str) (vds : List V) : Prop where
  ex : ∃ (f : Addr) (fd : FuncData) (dvs : List V) (kws : List (Str × V)) (ds : List Value), FunD K m qual (defArgs st) (defBody st) (defScope st) dvs kws f fd ∧ Meth K C m f ∧ Binds K fd ps ds ∧ Vals vds ds
  cl : Cls K C
/-- a class by its name, and its __init__ -/
structure Mkr (K : PySem.W.Frag) (mg : Str → Option Value) (x : Str) (C : Addr) (qual : Str) (st : Stmt) (ps : List Str) : Prop where
  ex : ∃ (f : Addr) (fd : FuncData) (dvs : List V) (kws : List (Str × V)), FunD K "__init__" qual (defArgs st) (defBody st) (defScope st) dvs kws f fd ∧ Mk K C f ∧ Binds K fd ps []
  nm : mg x = some (.ref C)
  cl : Cls K C
section
variable {P : Program} {w : World} {K : PySem.W.Frag} {mg : Str → Option Value} {base : Heap} {N ps : List Str} {k : Nat} {sp : Sp} {vds : List V}
theorem Dfn.cal {x : Str} {st : Stmt} (D : Dfn K mg x st ps vds) (S : FnScope N ps (defScope st)) (len : ∀ vs H Q E, sp vs H Q E → vs.length = ps.length)
    (hbody : ∀ (f : Addr) (cdv : Value) (A : Around) (outer : List Env) (s : Shared) (H : Hp) (vs : List V) (Q : VK) (E : XK), Room k (A.deeper (envOfC x (defScope st) s.heap.objs.size f cdv)) → sp vs H Q E →
      ∃ t, PSs (cxOf C8.CX0 P w K mg base N x (defScope st) f cdv A outer s H E).nox (defBody st) t ∧ t { nx := fun _ H' => Q .non H', rt := Q } (start N vs) H) : Cal P w K mg base (k + 1) x sp vds := by
  obtain ⟨f, fd, dvs, kws, ds, F, hm, b, vd⟩ := D.ex
  refine ⟨f, fd, ps, ds, F.ok S len (fun cdv A outer s H vs Q E hr hs => ?_), hm, F.kp, b, vd⟩
  obtain ⟨t, h1, h2⟩ := hbody f cdv A outer s H vs Q E hr hs
  exact ⟨t, PSs.nox h1, h2⟩
theorem Mth.met {C : Addr} {m qual : Str} {st : Stmt} (D : Mth K C m qual st ps vds) (S : FnScope N ps (defScope st)) (len : ∀ vs H Q E, sp vs H Q E → vs.length = ps.length)
    (hbody : ∀ (f : Addr) (cdv : Value) (A : Around) (outer : List Env) (s : Shared) (H : Hp) (vs : List V) (Q : VK) (E : XK), Room k (A.deeper (envOfC qual (defScope st) s.heap.objs.size f cdv)) → sp vs H Q E →
      ∃ t, PSs (cxOf C8.CX0 P w K mg base N qual (defScope st) f cdv A outer s H E).nox (defBody st) t ∧ t { nx := fun _ H' => Q .non H', rt := Q } (start N vs) H) : Met P w K mg base (k + 1) C m sp vds := by
  obtain ⟨f, fd, dvs, kws, ds, F, hm, b, vd⟩ := D.ex
  refine ⟨f, fd, ps, ds, D.cl, hm, F.ok S len (fun cdv A outer s H vs Q E hr hs => ?_), b, vd⟩
  obtain ⟨t, h1, h2⟩ := hbody f cdv A outer s H vs Q E hr hs
  exact ⟨t, PSs.nox h1, h2⟩
theorem Mkr.mak {x : Str} {C : Addr} {qual : Str} {st : Stmt} (D : Mkr K mg x C qual st ps) (S : FnScope N ps (defScope st)) (len : ∀ vs H Q E, sp vs H Q E → vs.length = ps.length)
    (hbody : ∀ (f : Addr) (cdv : Value) (A : Around) (outer : List Env) (s : Shared) (H : Hp) (vs : List V) (Q : VK) (E : XK), Room k (A.deeper (envOfC qual (defScope st) s.heap.objs.size f cdv)) → sp vs H Q E →
      ∃ t, PSs (cxOf C8.CX0 P w K mg base N qual (defScope st) f cdv A outer s H E).nox (defBody st) t ∧ t { nx := fun _ H' => Q .non H', rt := Q } (start N vs) H) : Mak P w K mg base (k + 1) x C sp [] := by
  obtain ⟨f, fd, dvs, kws, F, hm, b⟩ := D.ex
  refine ⟨f, fd, ps, [], hm, F.ok S len (fun cdv A outer s H vs Q E hr hs => ?_), D.nm, b, .nil⟩
  obtain ⟨t, h1, h2⟩ := hbody f cdv A outer s H vs Q E hr hs
  exact ⟨t, PSs.nox h1, h2⟩
end
end K49

namespace K49
open PySem PySem.Spec PyProof.Rows L2
def d_is_integer : He.DefD := ⟨("is_integer", none), "is_integer", "is_integer", defArgs s_is_integer, defBody s_is_integer, defScope s_is_integer, [], []⟩
def d_is_list : He.DefD := ⟨("is_list", none), "is_list", "is_list", defArgs s_is_list, defBody s_is_list, defScope s_is_list, [], []⟩
def d_is_point : He.DefD := ⟨("is_point", none), "is_point", "is_point", defArgs s_is_point, defBody s_is_point, defScope s_is_point, [], []⟩
def d_check_places : He.DefD := ⟨("check_places", none), "check_places", "check_places", defArgs s_check_places, defBody s_check_places, defScope s_check_places, [], []⟩
def d_check_point : He.DefD := ⟨("check_point", none), "check_point", "check_point", defArgs s_check_point, defBody s_check_point, defScope s_check_point, [], []⟩
def d_parts_of : He.DefD := ⟨("parts_of", none), "parts_of", "parts_of", defArgs s_parts_of, defBody s_parts_of, defScope s_parts_of, [], []⟩
def d_all_parts : He.DefD := ⟨("all_parts", none), "all_parts", "all_parts", defArgs s_all_parts, defBody s_all_parts, defScope s_all_parts, [], []⟩
def d_is_example : He.DefD := ⟨("is_example", none), "is_example", "is_example", defArgs s_is_example, defBody s_is_example, defScope s_is_example, [], []⟩
def d_checked_rows : He.DefD := ⟨("checked_rows", none), "checked_rows", "checked_rows", defArgs s_checked_rows, defBody s_checked_rows, defScope s_checked_rows, [], []⟩
def d_view_of : He.DefD := ⟨("view_of", none), "view_of", "view_of", defArgs s_view_of, defBody s_view_of, defScope s_view_of, [], []⟩
def d_has_rule : He.DefD := ⟨("has_rule", none), "has_rule", "has_rule", defArgs s_has_rule, defBody s_has_rule, defScope s_has_rule, [.non], []⟩
def d_checked_points : He.DefD := ⟨("checked_points", none), "checked_points", "checked_points", defArgs s_checked_points, defBody s_checked_points, defScope s_checked_points, [], []⟩
def d_is_given : He.DefD := ⟨("is_given", none), "is_given", "is_given", defArgs s_is_given, defBody s_is_given, defScope s_is_given, [], []⟩
def d_labelings : He.DefD := ⟨("labelings", none), "labelings", "labelings", defArgs s_labelings, defBody s_labelings, defScope s_labelings, [], []⟩
def d_is_shattered : He.DefD := ⟨("is_shattered", none), "is_shattered", "is_shattered", defArgs s_is_shattered, defBody s_is_shattered, defScope s_is_shattered, [], []⟩
def d_shattered : He.DefD := ⟨("shattered", none), "shattered", "shattered", defArgs s_shattered, defBody s_shattered, defScope s_shattered, [], []⟩
def d_dimension : He.DefD := ⟨("dimension", none), "dimension", "dimension", defArgs s_dimension, defBody s_dimension, defScope s_dimension, [], []⟩
def d_least_price : He.DefD := ⟨("least_price", none), "least_price", "least_price", defArgs s_least_price, defBody s_least_price, defScope s_least_price, [], []⟩
def d_with_label : He.DefD := ⟨("with_label", none), "with_label", "with_label", defArgs s_with_label, defBody s_with_label, defScope s_with_label, [], []⟩
def d_judge_half : He.DefD := ⟨("judge_half", none), "judge_half", "judge_half", defArgs s_judge_half, defBody s_judge_half, defScope s_judge_half, [], []⟩
def d_box_bounds : He.DefD := ⟨("box_bounds", none), "box_bounds", "box_bounds", defArgs s_box_bounds, defBody s_box_bounds, defScope s_box_bounds, [], []⟩
def d_is_inside : He.DefD := ⟨("is_inside", none), "is_inside", "is_inside", defArgs s_is_inside, defBody s_is_inside, defScope s_is_inside, [], []⟩
def d_judge_box : He.DefD := ⟨("judge_box", none), "judge_box", "judge_box", defArgs s_judge_box, defBody s_judge_box, defScope s_judge_box, [], []⟩
def d_cleared_row : He.DefD := ⟨("cleared_row", none), "cleared_row", "cleared_row", defArgs s_cleared_row, defBody s_cleared_row, defScope s_cleared_row, [], []⟩
def d_reduced_rows : He.DefD := ⟨("reduced_rows", none), "reduced_rows", "reduced_rows", defArgs s_reduced_rows, defBody s_reduced_rows, defScope s_reduced_rows, [], []⟩
def d_span_rows : He.DefD := ⟨("span_rows", none), "span_rows", "span_rows", defArgs s_span_rows, defBody s_span_rows, defScope s_span_rows, [], []⟩
def d_weights_for : He.DefD := ⟨("weights_for", none), "weights_for", "weights_for", defArgs s_weights_for, defBody s_weights_for, defScope s_weights_for, [], []⟩
def d_judge_flat : He.DefD := ⟨("judge_flat", none), "judge_flat", "judge_flat", defArgs s_judge_flat, defBody s_judge_flat, defScope s_judge_flat, [], []⟩
def d_is_below : He.DefD := ⟨("is_below", none), "is_below", "is_below", defArgs s_is_below, defBody s_is_below, defScope s_is_below, [], []⟩
def d_judge_rise : He.DefD := ⟨("judge_rise", none), "judge_rise", "judge_rise", defArgs s_judge_rise, defBody s_judge_rise, defScope s_judge_rise, [], []⟩
def d_in_order : He.DefD := ⟨("in_order", none), "in_order", "in_order", defArgs s_in_order, defBody s_in_order, defScope s_in_order, [], []⟩
def d_judge_turns : He.DefD := ⟨("judge_turns", none), "judge_turns", "judge_turns", defArgs s_judge_turns, defBody s_judge_turns, defScope s_judge_turns, [], []⟩
def d_agree : He.DefD := ⟨("agree", none), "agree", "agree", defArgs s_agree, defBody s_agree, defScope s_agree, [], []⟩
def d_first_part : He.DefD := ⟨("first_part", none), "first_part", "first_part", defArgs s_first_part, defBody s_first_part, defScope s_first_part, [], []⟩
def d_teaching_number : He.DefD := ⟨("teaching_number", none), "teaching_number", "teaching_number", defArgs s_teaching_number, defBody s_teaching_number, defScope s_teaching_number, [], []⟩
def d_checked_prices : He.DefD := ⟨("checked_prices", none), "checked_prices", "checked_prices", defArgs s_checked_prices, defBody s_checked_prices, defScope s_checked_prices, [], []⟩
def d_halved : He.DefD := ⟨("halved", none), "halved", "halved", defArgs s_halved, defBody s_halved, defScope s_halved, [], []⟩
def d_cheapest : He.DefD := ⟨("cheapest", none), "cheapest", "cheapest", defArgs s_cheapest, defBody s_cheapest, defScope s_cheapest, [], []⟩
def d_asked : He.DefD := ⟨("asked", none), "asked", "asked", defArgs s_asked, defBody s_asked, defScope s_asked, [], []⟩
def d_asks : He.DefD := ⟨("asks", none), "asks", "asks", defArgs s_asks, defBody s_asks, defScope s_asks, [], [("prices", .non)]⟩
def d_depth_of : He.DefD := ⟨("depth_of", none), "depth_of", "depth_of", defArgs s_depth_of, defBody s_depth_of, defScope s_depth_of, [], []⟩
def d_mistakes : He.DefD := ⟨("mistakes", none), "mistakes", "mistakes", defArgs s_mistakes, defBody s_mistakes, defScope s_mistakes, [], []⟩
def d_law_source : He.DefD := ⟨("_law_source", none), "_law_source", "_law_source", defArgs s_law_source, defBody s_law_source, defScope s_law_source, [], []⟩
def d_law_draw : He.DefD := ⟨("_law_draw", none), "_law_draw", "_law_draw", defArgs s_law_draw, defBody s_law_draw, defScope s_law_draw, [], []⟩
def d_law_mixed : He.DefD := ⟨("_law_mixed", none), "_law_mixed", "_law_mixed", defArgs s_law_mixed, defBody s_law_mixed, defScope s_law_mixed, [], []⟩
def d_law_same : He.DefD := ⟨("_law_same", none), "_law_same", "_law_same", defArgs s_law_same, defBody s_law_same, defScope s_law_same, [], []⟩
def d_law_choices : He.DefD := ⟨("_law_choices", none), "_law_choices", "_law_choices", defArgs s_law_choices, defBody s_law_choices, defScope s_law_choices, [], []⟩
def d_law_halvings : He.DefD := ⟨("_law_halvings", none), "_law_halvings", "_law_halvings", defArgs s_law_halvings, defBody s_law_halvings, defScope s_law_halvings, [], []⟩
def d_law_rises : He.DefD := ⟨("_law_rises", none), "_law_rises", "_law_rises", defArgs s_law_rises, defBody s_law_rises, defScope s_law_rises, [], []⟩
def d_law_curved : He.DefD := ⟨("_law_curved", none), "_law_curved", "_law_curved", defArgs s_law_curved, defBody s_law_curved, defScope s_law_curved, [], []⟩
def d_law_halves_of : He.DefD := ⟨("_law_halves_of", none), "_law_halves_of", "_law_halves_of", defArgs s_law_halves_of, defBody s_law_halves_of, defScope s_law_halves_of, [], []⟩
def d_law_flats_of : He.DefD := ⟨("_law_flats_of", none), "_law_flats_of", "_law_flats_of", defArgs s_law_flats_of, defBody s_law_flats_of, defScope s_law_flats_of, [], []⟩
def d_law_in_row_right : He.DefD := ⟨("_law_in_row_right", none), "_law_in_row_right", "_law_in_row_right", defArgs s_law_in_row_right, defBody s_law_in_row_right, defScope s_law_in_row_right, [], []⟩
def d_law_apart_right : He.DefD := ⟨("_law_apart_right", none), "_law_apart_right", "_law_apart_right", defArgs s_law_apart_right, defBody s_law_apart_right, defScope s_law_apart_right, [], []⟩
def d_law_turns_right : He.DefD := ⟨("_law_turns_right", none), "_law_turns_right", "_law_turns_right", defArgs s_law_turns_right, defBody s_law_turns_right, defScope s_law_turns_right, [], []⟩
def d_law : He.DefD := ⟨("law", none), "law", "law", defArgs s_law, defBody s_law, defScope s_law, [], []⟩
def d_Sample_init : He.DefD := ⟨("Sample", some "__init__"), "__init__", "Sample.__init__", defArgs s_Sample_init, defBody s_Sample_init, defScope s_Sample_init, [.adr (He.dflAt ("Sample", some "__init__") 0)], []⟩
def d_Sample_examples : He.DefD := ⟨("Sample", some "examples"), "examples", "Sample.examples", defArgs s_Sample_examples, defBody s_Sample_examples, defScope s_Sample_examples, [], []⟩
def d_Table_init : He.DefD := ⟨("Table", some "__init__"), "__init__", "Table.__init__", defArgs s_Table_init, defBody s_Table_init, defScope s_Table_init, [], []⟩
def d_Table_pivot : He.DefD := ⟨("Table", some "pivot"), "pivot", "Table.pivot", defArgs s_Table_pivot, defBody s_Table_pivot, defScope s_Table_pivot, [], []⟩
def d_Table_cleared : He.DefD := ⟨("Table", some "cleared"), "cleared", "Table.cleared", defArgs s_Table_cleared, defBody s_Table_cleared, defScope s_Table_cleared, [], []⟩
def d_Table_improve : He.DefD := ⟨("Table", some "improve"), "improve", "Table.improve", defArgs s_Table_improve, defBody s_Table_improve, defScope s_Table_improve, [], []⟩
def d_Table_leaving : He.DefD := ⟨("Table", some "leaving"), "leaving", "Table.leaving", defArgs s_Table_leaving, defBody s_Table_leaving, defScope s_Table_leaving, [], []⟩
def d_Table_leave_artificial : He.DefD := ⟨("Table", some "leave_artificial"), "leave_artificial", "Table.leave_artificial", defArgs s_Table_leave_artificial, defBody s_Table_leave_artificial, defScope s_Table_leave_artificial, [], []⟩
def d_Halves_init : He.DefD := ⟨("Halves", some "__init__"), "__init__", "Kind.__init__", defArgs s_Kind_init, defBody s_Kind_init, defScope s_Kind_init, [], []⟩
def d_Boxes_init : He.DefD := ⟨("Boxes", some "__init__"), "__init__", "Kind.__init__", defArgs s_Kind_init, defBody s_Kind_init, defScope s_Kind_init, [], []⟩
def d_Rising_init : He.DefD := ⟨("Rising", some "__init__"), "__init__", "Kind.__init__", defArgs s_Kind_init, defBody s_Kind_init, defScope s_Kind_init, [], []⟩
def d_Flats_init : He.DefD := ⟨("Flats", some "__init__"), "__init__", "Kind.__init__", defArgs s_Kind_init, defBody s_Kind_init, defScope s_Kind_init, [], []⟩
def d_Halves_judge : He.DefD := ⟨("Halves", some "judge"), "judge", "Halves.judge", defArgs s_Halves_judge, defBody s_Halves_judge, defScope s_Halves_judge, [], []⟩
def d_Boxes_judge : He.DefD := ⟨("Boxes", some "judge"), "judge", "Boxes.judge", defArgs s_Boxes_judge, defBody s_Boxes_judge, defScope s_Boxes_judge, [], []⟩
def d_Rising_judge : He.DefD := ⟨("Rising", some "judge"), "judge", "Rising.judge", defArgs s_Rising_judge, defBody s_Rising_judge, defScope s_Rising_judge, [], []⟩
def d_Flats_judge : He.DefD := ⟨("Flats", some "judge"), "judge", "Flats.judge", defArgs s_Flats_judge, defBody s_Flats_judge, defScope s_Flats_judge, [], []⟩
def d_Turns_judge : He.DefD := ⟨("Turns", some "judge"), "judge", "Turns.judge", defArgs s_Turns_judge, defBody s_Turns_judge, defScope s_Turns_judge, [], []⟩
def fn0 : List He.DefD := [d_is_integer, d_is_list, d_is_point, d_check_places, d_check_point, d_parts_of, d_all_parts, d_is_example, d_checked_rows, d_view_of, d_has_rule, d_checked_points, d_is_given, d_labelings, d_is_shattered]
def fn1 : List He.DefD := [d_shattered, d_dimension, d_least_price, d_with_label, d_judge_half, d_box_bounds, d_is_inside, d_judge_box, d_cleared_row, d_reduced_rows, d_span_rows, d_weights_for, d_judge_flat, d_is_below, d_judge_rise]
def fn2 : List He.DefD := [d_in_order, d_judge_turns, d_agree, d_first_part, d_teaching_number, d_checked_prices, d_halved, d_cheapest, d_asked, d_asks, d_depth_of, d_mistakes, d_law_source, d_law_draw, d_law_mixed]
def fn3 : List He.DefD := [d_law_same, d_law_choices, d_law_halvings, d_law_rises, d_law_curved, d_law_halves_of, d_law_flats_of, d_law_in_row_right, d_law_apart_right, d_law_turns_right, d_law, d_Sample_init, d_Sample_examples, d_Table_init, d_Table_pivot]
def fn4 : List He.DefD := [d_Table_cleared, d_Table_improve, d_Table_leaving, d_Table_leave_artificial, d_Halves_init, d_Boxes_init, d_Rising_init, d_Flats_init, d_Halves_judge, d_Boxes_judge, d_Rising_judge, d_Flats_judge, d_Turns_judge]
def fn : List He.DefD := fn0 ++ fn1 ++ fn2 ++ fn3 ++ fn4
def fa0 : List He.Fa := [.glo "is_integer", .glo "is_list", .glo "is_point", .glo "check_places", .glo "check_point", .glo "parts_of", .glo "all_parts", .glo "is_example", .glo "checked_rows", .glo "view_of", .glo "has_rule", .glo "checked_points", .glo "is_given", .glo "labelings", .glo "is_shattered"]
def fa1 : List He.Fa := [.glo "shattered", .glo "dimension", .glo "least_price", .glo "with_label", .glo "judge_half", .glo "box_bounds", .glo "is_inside", .glo "judge_box", .glo "cleared_row", .glo "reduced_rows", .glo "span_rows", .glo "weights_for", .glo "judge_flat", .glo "is_below", .glo "judge_rise"]
def fa2 : List He.Fa := [.glo "in_order", .glo "judge_turns", .glo "agree", .glo "first_part", .glo "teaching_number", .glo "checked_prices", .glo "halved", .glo "cheapest", .glo "asked", .glo "asks", .glo "depth_of", .glo "mistakes", .glo "_law_source", .glo "_law_draw", .glo "_law_mixed"]
def fa3 : List He.Fa := [.glo "_law_same", .glo "_law_choices", .glo "_law_halvings", .glo "_law_rises", .glo "_law_curved", .glo "_law_halves_of", .glo "_law_flats_of", .glo "_law_in_row_right", .glo "_law_apart_right", .glo "_law_turns_right", .glo "law", .glo "Sample", .glo "Table", .glo "Halves", .glo "Boxes"]
def fa4 : List He.Fa := [.glo "Rising", .glo "Flats", .glo "Turns", .free "isinstance", .free "int", .free "bool", .free "list", .free "tuple", .free "len", .free "all", .free "any", .free "range", .free "enumerate", .free "zip", .free "sorted"]
def fa5 : List He.Fa := [.free "min", .free "max", .free "sum", .free "super", .int "MOST_PLACES" 3, .int "MOST_TURNS" 6, .cls "Sample", .mkr "Sample", .keep "Sample", .noat "Sample" "places", .noat "Sample" "rows", .cls "Table", .mkr "Table", .keep "Table", .noat "Table" "many"]
def fa6 : List He.Fa := [.noat "Table" "signs", .noat "Table" "rows", .noat "Table" "basis", .noat "Table" "scale", .cls "Halves", .mkr "Halves", .keep "Halves", .noat "Halves" "places", .cls "Boxes", .mkr "Boxes", .keep "Boxes", .noat "Boxes" "places", .cls "Rising", .mkr "Rising", .keep "Rising"]
def fa7 : List He.Fa := [.noat "Rising" "places", .cls "Flats", .mkr "Flats", .keep "Flats", .noat "Flats" "places", .cls "Turns", .mkr "Turns", .keep "Turns", .noat "Turns" "places", .noat "Turns" "most", .meth "Sample" "examples", .meth "Table" "pivot", .meth "Table" "cleared", .meth "Table" "improve", .meth "Table" "leaving"]
def fa8 : List He.Fa := [.meth "Table" "leave_artificial", .meth "Halves" "judge", .meth "Boxes" "judge", .meth "Rising" "judge", .meth "Flats" "judge", .meth "Turns" "judge"]
def fa : List He.Fa := fa0 ++ fa1 ++ fa2 ++ fa3 ++ fa4 ++ fa5 ++ fa6 ++ fa7 ++ fa8
def PTA : Addr := 1327
/-- Turns.__init__, as it stands -/
def tiVal : He.FnW := some ("__init__", "Turns.__init__", defArgs s_Turns_init, .stmts (defBody s_Turns_init), defScope s_Turns_init, mainGlobals, [("__class__", 992)], builtinsNs)
/-- what else the walk asks of the written part -/
def tiB (K : PySem.W.Frag) : Bool :=
  decide (He.ga K "Turns" = 1049) && (decide (He.ma K 1049 "__init__" = 1004) && ((match K.lookup 1004 with
    | some ⟨_, _, .func fd, _⟩ => (match fd.defaults, fd.kwdefaults, fd.annotations, fd.code with
      | .none, .none, none, .ref c => decide (c = 1003)
      | _, _, _, _ => false)
    | _ => false) && ((match K.lookup 992 with
    | some ⟨_, _, .cell (some (.ref a)), _⟩ => decide (a = 1049)
    | _ => false) && (PySem.W.codeIn K (.ref 1003) "Turns.__init__" && ((match K.lookup 1003 with
    | some ⟨_, _, .fields vs, _⟩ => (match (vs[2]? : Option Value) with
      | some (Value.str z _) => ((PySem.Challenge.rw_toldenough_k49_whole_labelings_counted.prog.main.file : Str) == z)
      | _ => false)
    | _ => false) && ((PySem.W.clsIn K 1049).isSome && (decide (PySem.W.mroIn K 1049 (.ref 1049) = some true) && (He.eqO (PySem.W.nsIn K cStatics "thirdparty.any") (some none) && (He.eqO (PySem.W.ks_superIn K 1049 1049 "__init__") (some (some (.ref 716))) && (decide (He.ma K (He.ga K "Halves") "__init__" = 716) && (decide (PySem.W.typeIn K (.ref 716) = some (.type "function")) && (PySem.W.fnIn K 716 && (match K.lookup (He.ga K "cheapest") with
    | some ⟨_, _, .func fd, _⟩ => (match fd.code with
      | .ref c => decide (c = 1331)
      | _ => false)
    | _ => false)))))))))))))
/-- the table of cheapest's code object, that code object -/
def tabB (g : Addr → Option Obj) : Bool := (match g 1331 with
    | some ⟨oc, _, .fields vs, _⟩ => decide (oc = .type "code") && (match (vs[11]? : Option Value), (vs.getD 18 Value.none : Value), (vs.getD 7 Value.none : Value), (vs.getD 9 Value.none : Value), (vs.getD 10 Value.none : Value) with
      | some (Value.ref p), Value.str _ _, Value.int _ _, Value.bool _, Value.int _ _ => decide (p = PTA)
      | _, _, _, _, _ => false)
    | _ => false) && (match g PTA with
    | some ⟨.none, none, .fields us, sl⟩ => us.toList.isEmpty && sl.toList.isEmpty
    | _ => false)
end K49

namespace K49
open PySem PySem.Spec PyProof.Rows L2
def as0 : List Addr := [2, 992, 339, 338, 434, 433, 824, 823, 878, 877, 932, 931, 986, 985, 1049, 1048, 768, 767, 179, 178, 186, 185, 191, 190, 205]
def as1 : List Addr := [204, 212, 211, 217, 216, 224, 223, 242, 241, 247, 246, 348, 347, 356, 355, 349, 363, 362, 370, 369, 375, 374, 380, 379, 385]
def as2 : List Addr := [384, 392, 391, 443, 442, 448, 447, 453, 452, 535, 534, 540, 539, 545, 544, 569, 568, 574, 573, 579, 578, 584, 583, 596, 595]
def as3 : List Addr := [613, 612, 618, 617, 680, 679, 685, 684, 1305, 1304, 1310, 1309, 1315, 1314, 1320, 1319, 1325, 1324, 1332, 1331, 1339, 1338, 1347, 1346, 1340]
def as4 : List Addr := [1354, 1353, 1361, 1360, 1368, 1367, 1375, 1374, 1380, 1379, 1385, 1384, 1392, 1391, 1399, 1398, 1406, 1405, 1411, 1410, 1416, 1415, 1421, 1420, 1426]
def as5 : List Addr := [1425, 1431, 1430, 1436, 1435, 1443, 1442, 263, 262, 256, 270, 269, 404, 403, 409, 408, 414, 413, 419, 418, 426, 425, 431, 430, 716]
def as6 : List Addr := [715, 807, 806, 861, 860, 915, 914, 969, 968, 1004, 1003, 1032, 1031]
def asL : List Addr := mainGlobals :: (as0 ++ as1 ++ as2 ++ as3 ++ as4 ++ as5 ++ as6)
def names0 : List PySem.Str := ["_wall", "ToldError", "BadPlaces", "BadExample", "BadIndex", "UnlikePlaces", "BadMost", "BadPoint", "BadPrices", "MOST_PLACES", "is_integer", "is_list", "is_point", "is_index", "check_places", "check_point", "parts_of", "all_parts", "marks_of", "numbers_in"]
def names1 : List PySem.Str := ["WORDS", "is_example", "checked_rows", "Sample", "view_of", "has_rule", "checked_points", "is_given", "labelings", "is_shattered", "shattered", "dimension", "Table", "least_price", "with_label", "judge_half", "sweep_half", "EVERYWHERE", "is_empty", "later_start"]
def names2 : List PySem.Str := ["sooner_end", "union_of", "goes_on", "common_to", "rest_of", "at_least", "at_most", "from_entries", "box_bounds", "is_inside", "judge_box", "sweep_box", "inside_times", "reaching_times", "cleared_row", "reduced_rows", "span_rows", "weights_for", "times_in", "judge_flat"]
def names3 : List PySem.Str := ["span_moments", "sweep_flat", "is_below", "judge_rise", "sweep_rise", "is_headed", "is_half", "is_end", "is_rows", "is_box", "is_rise", "is_flat", "is_turns", "in_order", "judge_turns", "bad_entries", "sweep_turns", "MOST_TURNS", "turned_view", "Kind"]
def names4 : List PySem.Str := ["Halves", "Boxes", "Rising", "Flats", "Turns", "Contrary", "Pair", "Choice", "Joined", "Both", "Either", "agree", "first_part", "teaching_number", "GREATEST_PRICE", "checked_prices", "halved", "cheapest", "asked", "asks"]
def names5 : List PySem.Str := ["depth_of", "mistakes", "_law_source", "_law_draw", "_law_mixed", "_law_same", "_law_choices", "_law_halvings", "_law_rises", "_law_curved", "_law_halves_of", "_law_flats_of", "_law_in_row_right", "_law_apart_right", "_law_turns_right"]
def names : List PySem.Str := names0 ++ names1 ++ names2 ++ names3 ++ names4 ++ names5
abbrev R : PySem.W.OpenRow := PySem.W.OpenLaw.row PySem.Challenge.rw_toldenough_k49_whole_labelings_counted
abbrev qv : Program := PySem.W.view R.prog [135]
abbrev AlK : Type := He.AlD × (He.FnW × Bool × Bool)
def obsA (g : Addr → Option Obj) : AlK := (He.obsD fa fn (He.frG g asL), He.fnW (He.frG g asL) ("Turns", some "__init__"), tiB (He.frG g asL), tabB g)
def valK : AlK := (He.valD fn, tiVal, true, true)
theorem pt_out : (asL.contains PTA) = false := by decide +kernel
theorem frG_none {g : Addr → Option Obj} {a : Addr} : ∀ {as : List Addr}, as.contains a = false → (He.frG g as).lookup a = none
  | [], _ => rfl
  | b :: r, h => by
    rw [List.contains_cons, Bool.or_eq_false_iff] at h
    unfold He.frG
    rw [List.filterMap_cons]
    cases hb : g b with
    | none => exact frG_none (g := g) h.2
    | some o =>
      show (match a == b with | true => some o | false => List.lookup a (He.frG g r)) = none
      rw [h.1]
      exact frG_none h.2
/-- the table of cheapest's code object -/
def TabH (h : Heap) : Prop := h.get? PTA = some { cls := .none, data := .fields #[] } ∧ PySem.W.CodeHd h 1331 PTA
theorem tabH_of {g : Addr → Option Obj} {h : Heap} (e : g = h.get?) (t : tabB g = true) : TabH h := by
  subst e
  obtain ⟨t1, t2⟩ := He.ba t
  constructor
  · split at t2
    · rename_i us sl hq
      obtain ⟨u1, u2⟩ := He.ba t2
      have e1 : us = #[] := by
        have := List.isEmpty_iff.mp u1
        exact Array.toList_inj.mp this
      have e2 : sl = #[] := by
        have := List.isEmpty_iff.mp u2
        exact Array.toList_inj.mp this
      rw [hq, e1, e2]
    · cases t2
  · split at t1
    · rename_i oc od vs sl hq
      obtain ⟨u1, u2⟩ := He.ba t1
      split at u2
      · rename_i p file tf flags tg inF text tt h1 h2 h3 h4 h5
        have ep := of_decide_eq_true u2
        subst ep
        refine ⟨_, vs, file, tf, flags, tg, inF, text, tt, hq, of_decide_eq_true u1, rfl, h1, ?_, h2, h3, h4, h5, by decide⟩
        rw [Array.getD_eq_getD_getElem?, h1]
        rfl
      · cases u2
    · cases t1
def hk : PySem.W.Hook where
  α := AlK
  obs := fun s => obsA s.heap.get?
  val := fun _ => valK
  says := fun _ h => ∃ K : PySem.W.Frag, K.In h ∧ K.lookup PTA = none ∧ He.SaysD fa fn K ∧ He.fnW K ("Turns", some "__init__") = tiVal ∧ tiB K = true ∧ TabH h
  of := fun _ _ e => ⟨_, He.frG_in, frG_none pt_out, congrArg (fun z : AlK => z.1) e, congrArg (fun z : AlK => z.2.1) e, congrArg (fun z : AlK => z.2.2.1) e, tabH_of rfl (congrArg (fun z : AlK => z.2.2.2) e)⟩
  keeps := fun _ _ _ ⟨K, hK, n, c, e1, e2, t⟩ k => ⟨K, PySem.W.Frag.In.keeps hK k, n, c, e1, e2, k _ _ t.1, t.2.keeps k⟩
def ob (s : PySem.W.SharedT) : AlK := obsA (HandSHeadRun.getT s)
theorem ob_eq (s : PySem.W.SharedT) : ob s = hk.obs s.abs := by
  have e : HandSHeadRun.getT s = s.abs.heap.get? := funext (HandSHeadRun.getT_eq s)
  show obsA (HandSHeadRun.getT s) = obsA s.abs.heap.get?
  rw [e]
end K49

namespace K49
open PySem PySem.Spec PyProof.Rows L2
section
open PySem PySem.W PySem.Calls PyProof.Rows
noncomputable abbrev endR (w : World) (os : OsState) := HandSHeadRun.endF (HandSHeadRun.stepQ (HandSHeadRun.denQ HandSHeadRun.tabQ) R.prog w) 20000 R.prog w os
noncomputable abbrev seenR (w : World) (s : PySem.W.SharedT) := (HandSHeadRun.looksF R.prog (boot_heap w.params) s.abs, HandSHeadRun.seenQ qv names (importedModules R.prog.main.body) (fun s => xlAt qv [] s && recOk R.toRowW.records s) s.abs)
end
theorem map_pair {α β γ : Type} {x : Option α} {f : α → β} {g : α → γ} {b : β} {c : γ} (h1 : x.map f = some b) (h2 : x.map g = some c) : x.map (fun s => (f s, g s)) = some (b, c) := by
  cases x with
  | none => cases h1
  | some s =>
    rw [Option.map_some] at *
    rw [Option.some.inj h1, Option.some.inj h2]
theorem map_three {α β γ δ : Type} {x : Option α} {f : α → β} {g : α → γ} {k : α → δ} {b : β} {c : γ} {d : δ} (h1 : x.map (fun s => (f s, g s)) = some (b, c)) (h2 : x.map k = some d) : x.map (fun s => (f s, g s, k s)) = some (b, c, d) := by
  cases x with
  | none => cases h1
  | some s =>
    rw [Option.map_some] at *
    have e := Option.some.inj h1
    rw [← Option.some.inj h2]
    injection e with e1 e2
    rw [← e1, ← e2]
theorem seen_f (w : World) (os : OsState) : (endR (w.withFollow "special-get-raises" false) os).map (seenR (w.withFollow "special-get-raises" false)) = some (true, PySem.W.openGood qv names) := by
  kernel_rfl
theorem facts_f (w : World) (os : OsState) : (endR (w.withFollow "special-get-raises" false) os).map ob = some valK := by
  kernel_rfl
theorem run_f (w : World) : HandSHeadRun.RunEq R qv hk ob 20000 names (w.withFollow "special-get-raises" false) := fun os => map_three (seen_f w os) (facts_f w os)
theorem seen_t (w : World) (os : OsState) : (endR (w.withFollow "special-get-raises" true) os).map (seenR (w.withFollow "special-get-raises" true)) = some (true, PySem.W.openGood qv names) := by
  kernel_rfl
theorem facts_t (w : World) (os : OsState) : (endR (w.withFollow "special-get-raises" true) os).map ob = some valK := by
  kernel_rfl
theorem run_t (w : World) : HandSHeadRun.RunEq R qv hk ob 20000 names (w.withFollow "special-get-raises" true) := fun os => map_three (seen_t w os) (facts_t w os)
end K49

namespace K49
/-- f 0 + .. + f (n - 1) -/
def sm : Nat → (Nat → Int) → Int
  | 0, _ => 0
  | n + 1, f => sm n f + f n
theorem sm_congr {n : Nat} {f g : Nat → Int} (h : ∀ i, i < n → f i = g i) : sm n f = sm n g := by
  induction n with
  | zero => rfl
  | succ n ih => simp only [sm]; rw [ih (fun i hi => h i (by omega)), h n (by omega)]
theorem sm_zero {n : Nat} {f : Nat → Int} (h : ∀ i, i < n → f i = 0) : sm n f = 0 := by
  induction n with
  | zero => rfl
  | succ n ih => simp only [sm]; rw [ih (fun i hi => h i (by omega)), h n (by omega)]; rfl
theorem sm_add (n : Nat) (f g : Nat → Int) : sm n (fun i => f i + g i) = sm n f + sm n g := by
  induction n with
  | zero => rfl
  | succ n ih => simp only [sm]; rw [ih]; omega
theorem sm_mul (n : Nat) (a : Int) (f : Nat → Int) : sm n (fun i => a * f i) = a * sm n f := by
  induction n with
  | zero => simp [sm]
  | succ n ih => simp only [sm]; rw [ih, Int.mul_add]
theorem sm_mulr (n : Nat) (a : Int) (f : Nat → Int) : sm n (fun i => f i * a) = sm n f * a := by
  induction n with
  | zero => simp [sm]
  | succ n ih => simp only [sm]; rw [ih, Int.add_mul]
theorem sm_neg (n : Nat) (f : Nat → Int) : sm n (fun i => - f i) = - sm n f := by
  induction n with
  | zero => rfl
  | succ n ih => simp only [sm]; rw [ih]; omega
theorem sm_sub (n : Nat) (f g : Nat → Int) : sm n (fun i => f i - g i) = sm n f - sm n g := by
  induction n with
  | zero => rfl
  | succ n ih => simp only [sm]; rw [ih]; omega
theorem sm_swap (n m : Nat) (f : Nat → Nat → Int) : sm n (fun i => sm m (fun j => f i j)) = sm m (fun j => sm n (fun i => f i j)) := by
  induction n with
  | zero => simp only [sm]; exact (sm_zero (fun _ _ => rfl)).symm
  | succ n ih => simp only [sm]; rw [ih, ← sm_add]
/-- all terms but one are zero -/
theorem sm_one {n r : Nat} {f : Nat → Int} (hr : r < n) (h : ∀ i, i < n → i ≠ r → f i = 0) : sm n f = f r := by
  induction n with
  | zero => omega
  | succ n ih =>
    simp only [sm]
    by_cases e : r = n
    · subst e
      rw [sm_zero (fun i hi => h i (by omega) (by omega))]; omega
    · rw [ih (by omega) (fun i hi hn => h i (by omega) hn), h n (by omega) (fun q => e q.symm)]; omega
theorem sm_two {n r s : Nat} {f : Nat → Int} (hr : r < n) (hs : s < n) (hrs : r ≠ s) (h : ∀ i, i < n → i ≠ r → i ≠ s → f i = 0) : sm n f = f r + f s := by
  have e : sm n f = sm n (fun i => (if i = r then f i else 0) + (if i = r then 0 else f i)) := sm_congr fun i _ => by split <;> omega
  rw [e, sm_add, sm_one (r := r) hr (fun i _ hn => by simp [hn]), sm_one (r := s) hs (fun i hi hn => by
    by_cases q : i = r
    · simp [q]
    · simp [q]; exact h i hi q hn)]
  simp [Ne.symm hrs]
/-- one term split off -/
theorem sm_pick {n r : Nat} {f : Nat → Int} (hr : r < n) : sm n f = f r + sm n (fun i => if i = r then 0 else f i) := by
  have e : sm n f = sm n (fun i => (if i = r then f i else 0) + (if i = r then 0 else f i)) := sm_congr fun i _ => by split <;> omega
  rw [e, sm_add, sm_one (r := r) hr (fun i _ hn => by simp [hn])]
  simp
theorem sm_nonneg {n : Nat} {f : Nat → Int} (h : ∀ i, i < n → 0 ≤ f i) : 0 ≤ sm n f := by
  induction n with
  | zero => exact Int.le_refl _
  | succ n ih => simp only [sm]; have := ih (fun i hi => h i (by omega)); have := h n (by omega); omega
theorem sm_le {n : Nat} {f g : Nat → Int} (h : ∀ i, i < n → f i ≤ g i) : sm n f ≤ sm n g := by
  induction n with
  | zero => exact Int.le_refl _
  | succ n ih => simp only [sm]; have := ih (fun i hi => h i (by omega)); have := h n (by omega); omega

def sgn (i : Nat) : Int := if i % 2 = 0 then 1 else -1
theorem sgn_succ (i : Nat) : sgn (i + 1) = - sgn i := by
  unfold sgn; split <;> split <;> omega
def skp (i a : Nat) : Nat := if a < i then a else a + 1
theorem skp_ne (i a : Nat) : skp i a ≠ i := by unfold skp; split <;> omega
/-- the place of row r when row i is struck -/
def low (i r : Nat) : Nat := if r < i then r else r - 1
theorem skp_low {i r : Nat} (h : r ≠ i) (a : Nat) : skp i a = r ↔ a = low i r := by
  unfold skp low; split <;> split <;> omega
abbrev Mx := Nat → Nat → Int
def minor (B : Mx) (i : Nat) : Mx := fun a k => B (skp i a) (k + 1)
def det : Nat → Mx → Int
  | 0, _ => 1
  | m + 1, B => sm (m + 1) fun i => sgn i * B i 0 * det m (minor B i)
def setR (B : Mx) (r : Nat) (v : Nat → Int) : Mx := fun i => if i = r then v else B i
theorem setR_same (B : Mx) (r : Nat) (v : Nat → Int) : setR B r v r = v := by simp [setR]
theorem setR_ne {B : Mx} {r i : Nat} {v : Nat → Int} (h : i ≠ r) : setR B r v i = B i := by simp [setR, h]
theorem setR_setR (B : Mx) (r : Nat) (u v : Nat → Int) : setR (setR B r u) r v = setR B r v := by
  funext i; unfold setR; split <;> rfl
theorem setR_comm {B : Mx} {r s : Nat} (h : r ≠ s) (u v : Nat → Int) : setR (setR B r u) s v = setR (setR B s v) r u := by
  funext i; unfold setR; split <;> split <;> first | rfl | omega
theorem setR_self (B : Mx) (r : Nat) : setR B r (B r) = B := by
  funext i; unfold setR; split
  · rename_i h; rw [h]
  · rfl
theorem det_congr : ∀ {m : Nat} {B C : Mx}, (∀ i k, i < m → k < m → B i k = C i k) → det m B = det m C
  | 0, _, _, _ => rfl
  | m + 1, B, C, h => by
    unfold det
    refine sm_congr fun i hi => ?_
    rw [h i 0 hi (by omega)]
    rw [det_congr (m := m) (B := minor B i) (C := minor C i) (fun a k ha hk => h _ _ (by unfold skp; split <;> omega) (by omega))]
theorem minor_set_same (B : Mx) (r : Nat) (v : Nat → Int) : minor (setR B r v) r = minor B r := by
  funext a k; unfold minor; rw [setR_ne (skp_ne r a)]
theorem minor_set (B : Mx) {i r : Nat} (h : r ≠ i) (v : Nat → Int) : minor (setR B r v) i = setR (minor B i) (low i r) (fun k => v (k + 1)) := by
  funext a
  by_cases e : a = low i r
  · have e' := (skp_low h a).mpr e
    rw [e, setR_same]
    funext k
    unfold minor
    rw [← e, e', setR_same]
  · rw [setR_ne e]
    funext k
    unfold minor
    rw [setR_ne (fun q => e ((skp_low h a).mp q))]
theorem low_lt {m i r : Nat} (hi : i < m + 1) (hr : r < m + 1) (h : r ≠ i) : low i r < m := by unfold low; split <;> omega
theorem det_add : ∀ {m : Nat} (B : Mx) {r : Nat} (u v : Nat → Int), r < m → det m (setR B r (fun k => u k + v k)) = det m (setR B r u) + det m (setR B r v)
  | 0, _, _, _, _, h => by omega
  | m + 1, B, r, u, v, h => by
    unfold det
    rw [← sm_add]
    refine sm_congr fun i hi => ?_
    by_cases e : i = r
    · subst e
      rw [minor_set_same, minor_set_same, minor_set_same, setR_same, setR_same, setR_same]
      grind
    · rw [minor_set _ (Ne.symm e), minor_set _ (Ne.symm e), minor_set _ (Ne.symm e), setR_ne e, setR_ne e, setR_ne e]
      rw [det_add (m := m) (minor B i) (fun k => u (k + 1)) (fun k => v (k + 1)) (low_lt hi h (Ne.symm e))]
      grind
theorem det_mul : ∀ {m : Nat} (B : Mx) {r : Nat} (a : Int) (v : Nat → Int), r < m → det m (setR B r (fun k => a * v k)) = a * det m (setR B r v)
  | 0, _, _, _, _, h => by omega
  | m + 1, B, r, a, v, h => by
    unfold det
    rw [← sm_mul]
    refine sm_congr fun i hi => ?_
    by_cases e : i = r
    · subst e
      rw [minor_set_same, minor_set_same, setR_same, setR_same]
      grind
    · rw [minor_set _ (Ne.symm e), minor_set _ (Ne.symm e), setR_ne e, setR_ne e]
      rw [det_mul (m := m) (minor B i) a (fun k => v (k + 1)) (low_lt hi h (Ne.symm e))]
      grind
theorem det_zero {m : Nat} (B : Mx) {r : Nat} (h : r < m) : det m (setR B r (fun _ => 0)) = 0 := by
  have e := det_mul B (r := r) 0 (fun _ => 0) h
  simpa using e
/-- a sum in a row -/
theorem det_sum {m : Nat} (B : Mx) {r : Nat} (hr : r < m) (n : Nat) (a : Nat → Int) (V : Nat → Nat → Int) : det m (setR B r (fun k => sm n (fun l => a l * V l k))) = sm n (fun l => a l * det m (setR B r (V l))) := by
  induction n with
  | zero => exact det_zero B hr
  | succ n ih =>
    simp only [sm]
    rw [det_add B (fun k => sm n (fun l => a l * V l k)) (fun k => a n * V n k) hr, ih, det_mul B (a n) (V n) hr]
/-- two neighbours alike -/
theorem det_adj : ∀ {m : Nat} {B : Mx} {r : Nat}, r + 1 < m → (∀ k, B r k = B (r + 1) k) → det m B = 0
  | 0, _, _, h, _ => by omega
  | m + 1, B, r, h, e => by
    unfold det
    rw [sm_two (r := r) (s := r + 1) (by omega) h (by omega) (fun i hi h1 h2 => ?_)]
    · have em : minor B r = minor B (r + 1) := by
        funext a k
        unfold minor
        by_cases q : a = r
        · subst q
          have e1 : skp a a = a + 1 := by unfold skp; split <;> omega
          have e2 : skp (a + 1) a = a := by unfold skp; split <;> omega
          rw [e1, e2]
          exact (e (k + 1)).symm
        · have e1 : skp r a = skp (r + 1) a := by unfold skp; split <;> split <;> omega
          rw [e1]
      rw [em, e 0, sgn_succ]
      grind
    · have z : det m (minor B i) = 0 := by
        by_cases q : i < r
        · refine det_adj (r := r - 1) (by omega) (fun k => ?_)
          unfold minor
          have e1 : skp i (r - 1) = r := by unfold skp; split <;> omega
          have e2 : skp i (r - 1 + 1) = r + 1 := by unfold skp; split <;> omega
          rw [e1, e2]
          exact e (k + 1)
        · refine det_adj (r := r) (by omega) (fun k => ?_)
          unfold minor
          have e1 : skp i r = r := by unfold skp; split <;> omega
          have e2 : skp i (r + 1) = r + 1 := by unfold skp; split <;> omega
          rw [e1, e2]
          exact e (k + 1)
      rw [z]
      exact Int.mul_zero _
/-- neighbours exchanged -/
theorem det_swap1 {m : Nat} (B : Mx) {r : Nat} (h : r + 1 < m) (u v : Nat → Int) : det m (setR (setR B r u) (r + 1) v) = - det m (setR (setR B r v) (r + 1) u) := by
  have hn : r ≠ r + 1 := by omega
  have z : ∀ w : Nat → Int, det m (setR (setR B r w) (r + 1) w) = 0 := fun w => det_adj h (fun k => by rw [setR_ne hn, setR_same, setR_same])
  have e1 := z (fun k => u k + v k)
  rw [det_add _ u v h, setR_comm hn, setR_comm hn, det_add _ u v (by omega), det_add _ u v (by omega), setR_comm hn.symm, setR_comm hn.symm, setR_comm hn.symm, setR_comm hn.symm, z u, z v] at e1
  omega
/-- two rows alike -/
theorem det_alt : ∀ (n : Nat) {m : Nat} {B : Mx} {r s : Nat}, s = r + 1 + n → s < m → (∀ k, B r k = B s k) → det m B = 0
  | 0, m, B, r, s, hs, h, e => by
    subst hs
    exact det_adj h e
  | n + 1, m, B, r, s, hs, h, e => by
    obtain ⟨t, rfl⟩ : ∃ t, s = t + 1 := ⟨s - 1, by omega⟩
    have hn : t ≠ t + 1 := by omega
    have e0 : setR (setR B t (B t)) (t + 1) (B (t + 1)) = B := by
      rw [setR_self, setR_self]
    have e1 := det_swap1 B (r := t) h (B t) (B (t + 1))
    rw [e0] at e1
    rw [e1]
    have z : det m (setR (setR B t (B (t + 1))) (t + 1) (B t)) = 0 := det_alt n (r := r) (s := t) (by omega) (by omega) (fun k => by
      rw [setR_ne (by omega), setR_ne (by omega), setR_ne hn, setR_same]
      exact e k)
    rw [z]
    rfl
theorem det_same {m : Nat} {B : Mx} {r s : Nat} (hr : r < m) (hs : s < m) (hn : r ≠ s) (e : B r = B s) : det m B = 0 := by
  rcases Nat.lt_or_gt_of_ne hn with q | q
  · exact det_alt (s - r - 1) (r := r) (s := s) (by omega) hs (fun k => by rw [e])
  · exact det_alt (r - s - 1) (r := s) (s := r) (by omega) hr (fun k => by rw [e])
theorem det_swap {m : Nat} (B : Mx) {r s : Nat} (hr : r < m) (hs : s < m) (hn : r ≠ s) (u v : Nat → Int) : det m (setR (setR B r u) s v) = - det m (setR (setR B r v) s u) := by
  have z : ∀ w : Nat → Int, det m (setR (setR B r w) s w) = 0 := fun w => det_same hr hs hn (by rw [setR_ne hn, setR_same, setR_same])
  have e1 := z (fun k => u k + v k)
  rw [det_add _ u v hs, setR_comm hn, setR_comm hn, det_add _ u v hr, det_add _ u v hr, setR_comm hn.symm, setR_comm hn.symm, setR_comm hn.symm, setR_comm hn.symm, z u, z v] at e1
  omega
def unitR : Mx := fun i k => if i = k then 1 else 0
theorem det_unit : ∀ m : Nat, det m unitR = 1
  | 0 => rfl
  | m + 1 => by
    unfold det
    rw [sm_one (r := 0) (by omega) (fun i _ hn => by simp [unitR, hn])]
    have e : minor unitR 0 = unitR := by
      funext a k
      simp [minor, skp, unitR]
    rw [e, det_unit m]
    simp [sgn, unitR]
/-- a bound: every entry within b -/
def detMax (b : Nat) : Nat → Nat
  | 0 => 1
  | m + 1 => (m + 1) * (b * detMax b m)
theorem det_bound (b : Nat) : ∀ {m : Nat} {B : Mx}, (∀ i k, i < m → k < m → (B i k).natAbs ≤ b) → (det m B).natAbs ≤ detMax b m
  | 0, _, _ => Nat.le_refl _
  | m + 1, B, h => by
    have key : ∀ n, n ≤ m + 1 → (sm n fun i => sgn i * B i 0 * det m (minor B i)).natAbs ≤ n * (b * detMax b m) := by
      intro n
      induction n with
      | zero => intro _; simp [sm]
      | succ n ih =>
        intro hn
        simp only [sm]
        have h1 := ih (by omega)
        have h2 : (det m (minor B n)).natAbs ≤ detMax b m := det_bound b (fun a k ha hk => h _ _ (by unfold skp; split <;> omega) (by omega))
        have h3 : (sgn n * B n 0 * det m (minor B n)).natAbs ≤ b * detMax b m := by
          rw [Int.natAbs_mul, Int.natAbs_mul]
          have h4 : (sgn n).natAbs = 1 := by unfold sgn; split <;> rfl
          rw [h4, Nat.one_mul]
          exact Nat.mul_le_mul (h n 0 (by omega) (by omega)) h2
        have h5 := Int.natAbs_add_le (sm n fun i => sgn i * B i 0 * det m (minor B i)) (sgn n * B n 0 * det m (minor B n))
        have h6 : (n + 1) * (b * detMax b m) = n * (b * detMax b m) + b * detMax b m := Nat.succ_mul _ _
        omega
    unfold det detMax
    exact key (m + 1) (Nat.le_refl _)
end K49

namespace K49
/-- a program's first phase: n columns A of m entries, the right side b -/
structure LP where
  n : Nat
  m : Nat
  A : Nat → Nat → Int
  b : Nat → Int
  nonneg : ∀ k, k < m → 0 ≤ b k
namespace LP
variable (P : LP)
/-- the columns, then the units, then the right side -/
def col (j : Nat) : Nat → Int := if j < P.n then P.A j else if j < P.n + P.m then unitR (j - P.n) else P.b
def rh : Nat := P.n + P.m
/-- the price of a column: one for a unit -/
def pr (j : Nat) : Int := if P.n ≤ j ∧ j < P.n + P.m then 1 else 0
def bas (β : Nat → Nat) : Mx := fun i => P.col (β i)
def d (β : Nat → Nat) : Int := det P.m (P.bas β)
def T (β : Nat → Nat) (i j : Nat) : Int := det P.m (setR (P.bas β) i (P.col j))
def phi (β : Nat → Nat) (x : Nat → Int) : Int := sm P.m fun i => P.pr (β i) * det P.m (setR (P.bas β) i x)
def G (β : Nat → Nat) (j : Nat) : Int := P.d β * P.pr j - sm P.m fun i => P.pr (β i) * P.T β i j
def start : Nat → Nat := fun i => if i < P.m then P.n + i else 0
structure Good (β : Nat → Nat) : Prop where
  pos : 0 < P.d β
  cram : ∀ j k, k < P.m → P.d β * P.col j k = sm P.m fun i => P.T β i j * P.col (β i) k
  lt : ∀ i, i < P.m → β i < P.n + P.m
  out : ∀ i, P.m ≤ i → β i = 0
  nn : ∀ i, i < P.m → 0 ≤ P.T β i P.rh
def piv (β : Nat → Nat) (r c : Nat) : Nat → Nat := fun i => if i = r then c else β i
/-- one turn of the loop: the first column below zero, the row by least ratio, then by least number -/
structure Turn (β : Nat → Nat) (c r : Nat) : Prop where
  cn : c < P.n
  neg : P.G β c < 0
  first : ∀ j, j < c → 0 ≤ P.G β j
  rm : r < P.m
  pos : 0 < P.T β r c
  least : ∀ i, i < P.m → 0 < P.T β i c → P.T β r P.rh * P.T β i c ≤ P.T β i P.rh * P.T β r c
  tie : ∀ i, i < P.m → 0 < P.T β i c → P.T β r P.rh * P.T β i c = P.T β i P.rh * P.T β r c → β r ≤ β i
variable {P} {β : Nat → Nat}
theorem bas_piv (r c : Nat) : P.bas (piv β r c) = setR (P.bas β) r (P.col c) := by
  funext i
  unfold bas piv setR
  split <;> rfl
theorem T_self (i : Nat) : P.T β i (β i) = P.d β := by
  unfold T d
  have e : P.col (β i) = P.bas β i := rfl
  rw [e, setR_self]
theorem T_other {i l : Nat} (hi : i < P.m) (hl : l < P.m) (h : i ≠ l) : P.T β i (β l) = 0 := by
  unfold T
  refine det_same hi hl h ?_
  rw [setR_same, setR_ne (Ne.symm h)]
  rfl
theorem inj (g : 0 < P.d β) {i l : Nat} (hi : i < P.m) (hl : l < P.m) (h : β i = β l) : i = l := by
  by_cases e : i = l
  · exact e
  · have z : P.d β = 0 := det_same hi hl e (by unfold bas; rw [h])
    omega
theorem G_eq (j : Nat) : P.G β j = P.d β * P.pr j - P.phi β (P.col j) := rfl
/-- the functional is linear -/
theorem phi_sum (n : Nat) (a : Nat → Int) (V : Nat → Nat → Int) : P.phi β (fun k => sm n fun l => a l * V l k) = sm n fun l => a l * P.phi β (V l) := by
  unfold phi
  have e : (sm P.m fun i => P.pr (β i) * det P.m (setR (P.bas β) i fun k => sm n fun l => a l * V l k)) = sm P.m fun i => sm n fun l => a l * (P.pr (β i) * det P.m (setR (P.bas β) i (V l))) := by
    refine sm_congr fun i hi => ?_
    rw [det_sum _ hi, ← sm_mul]
    exact sm_congr fun l _ => by grind
  rw [e, sm_swap]
  exact sm_congr fun l _ => sm_mul _ _ _
theorem det_setR_congr {m : Nat} (B : Mx) (i : Nat) {u v : Nat → Int} (h : ∀ k, k < m → u k = v k) : det m (setR B i u) = det m (setR B i v) :=
  det_congr fun a k _ hk => by
    unfold setR
    split
    · exact h k hk
    · rfl
theorem phi_congr {u v : Nat → Int} (h : ∀ k, k < P.m → u k = v k) : P.phi β u = P.phi β v := by
  unfold phi
  exact sm_congr fun i _ => by rw [det_setR_congr _ _ h]
theorem phi_mul (a : Int) (v : Nat → Int) : P.phi β (fun k => a * v k) = a * P.phi β v := by
  have e := phi_sum (P := P) (β := β) 1 (fun _ => a) (fun _ => v)
  simpa [sm] using e
/-- a vector by its entries -/
theorem phi_units (x : Nat → Int) : P.phi β x = sm P.m fun k => x k * P.phi β (unitR k) := by
  rw [← phi_sum]
  refine phi_congr fun k hk => ?_
  rw [sm_one (r := k) hk (fun i _ hn => by simp [unitR, hn])]
  simp [unitR]
theorem G_basic (g : 0 < P.d β) {i : Nat} (hi : i < P.m) : P.G β (β i) = 0 := by
  unfold G
  rw [sm_one (r := i) hi (fun l hl hn => by rw [T_other hl hi hn, Int.mul_zero]), T_self, Int.mul_comm]
  omega
/-- what Cramer's rule says of the functional of any basis -/
theorem G_cram (g : P.Good β) (γ : Nat → Nat) (s : Nat) : P.d β * P.G γ s - sm P.m (fun i => P.T β i s * P.G γ (β i)) = P.d γ * P.G β s := by
  have e : P.d β * P.phi γ (P.col s) = sm P.m fun i => P.T β i s * P.phi γ (P.col (β i)) := by
    rw [← phi_mul, ← phi_sum]
    exact phi_congr fun k hk => g.cram s k hk
  have e2 : (sm P.m fun i => P.T β i s * P.G γ (β i)) = P.d γ * (sm P.m fun i => P.pr (β i) * P.T β i s) - sm P.m fun i => P.T β i s * P.phi γ (P.col (β i)) := by
    rw [← sm_mul, ← sm_sub]
    exact sm_congr fun i _ => by rw [G_eq]; grind
  rw [e2, ← e, G_eq]
  unfold G
  grind
section
variable {c r : Nat}
theorem d_piv : P.d (piv β r c) = P.T β r c := by unfold d T; rw [bas_piv]
theorem T_piv_row (j : Nat) : P.T (piv β r c) r j = P.T β r j := by unfold T; rw [bas_piv, setR_setR]
theorem T_piv (g : P.Good β) (hr : r < P.m) {i : Nat} (hi : i < P.m) (hn : i ≠ r) (j : Nat) : P.d β * P.T (piv β r c) i j = P.T β i j * P.T β r c - P.T β i c * P.T β r j := by
  have e1 : P.d β * P.T (piv β r c) i j = sm P.m fun l => P.T β l j * det P.m (setR (setR (P.bas β) r (P.col c)) i (P.col (β l))) := by
    unfold T
    rw [bas_piv, ← det_mul _ _ _ hi, ← det_sum _ hi]
    exact det_setR_congr _ _ fun k hk => g.cram j k hk
  rw [e1, sm_two (r := i) (s := r) hi hr hn (fun l hl h1 h2 => ?_)]
  · have e2 : det P.m (setR (setR (P.bas β) r (P.col c)) i (P.col (β i))) = P.T β r c := by
      unfold T
      rw [setR_comm hn.symm]
      have q : setR (P.bas β) i (P.col (β i)) = P.bas β := setR_self _ _
      rw [q]
    have e3 : det P.m (setR (setR (P.bas β) r (P.col c)) i (P.col (β r))) = - P.T β i c := by
      rw [det_swap _ hr hi hn.symm]
      have q : setR (P.bas β) r (P.col (β r)) = P.bas β := setR_self _ _
      rw [q]
      rfl
    rw [e2, e3]
    grind
  · have z : det P.m (setR (setR (P.bas β) r (P.col c)) i (P.col (β l))) = 0 := by
      refine det_same hi hl (Ne.symm h1) ?_
      rw [setR_same, setR_ne h1, setR_ne h2]
      rfl
    rw [z, Int.mul_zero]
theorem G_piv (g : P.Good β) (hr : r < P.m) (hc : c < P.n) (j : Nat) : P.d β * P.G (piv β r c) j = P.T β r c * P.G β j - P.G β c * P.T β r j := by
  have p0 : P.pr c = 0 := by unfold pr; rw [if_neg (by omega)]
  have e1 : (sm P.m fun i => P.pr (piv β r c i) * P.T (piv β r c) i j) = sm P.m fun i => if i = r then 0 else P.pr (β i) * P.T (piv β r c) i j :=
    sm_congr fun i _ => by
      by_cases q : i = r
      · simp [piv, q, p0]
      · simp [piv, q]
  have e2 : P.d β * (sm P.m fun i => if i = r then 0 else P.pr (β i) * P.T (piv β r c) i j) = sm P.m fun i => (if i = r then 0 else P.pr (β i) * P.T β i j) * P.T β r c - (if i = r then 0 else P.pr (β i) * P.T β i c) * P.T β r j := by
    rw [← sm_mul]
    refine sm_congr fun i hi => ?_
    by_cases q : i = r
    · simp [q]
    · simp only [q, if_false]
      have := T_piv (c := c) g hr hi q j
      grind
  rw [sm_sub, sm_mulr, sm_mulr] at e2
  have e3 := sm_pick (n := P.m) (r := r) (f := fun i => P.pr (β i) * P.T β i j) hr
  have e4 := sm_pick (n := P.m) (r := r) (f := fun i => P.pr (β i) * P.T β i c) hr
  have e5 : P.G β j = P.d β * P.pr j - sm P.m fun i => P.pr (β i) * P.T β i j := rfl
  have e6 : P.G β c = P.d β * P.pr c - sm P.m fun i => P.pr (β i) * P.T β i c := rfl
  have e7 : P.G (piv β r c) j = P.d (piv β r c) * P.pr j - sm P.m fun i => P.pr (piv β r c i) * P.T (piv β r c) i j := rfl
  rw [e1, d_piv] at e7
  rw [p0] at e6
  grind
theorem Turn.good (t : P.Turn β c r) (g : P.Good β) : P.Good (piv β r c) := by
  have dp : P.d (piv β r c) = P.T β r c := d_piv
  refine ⟨by rw [dp]; exact t.pos, fun j k hk => ?_, fun i hi => ?_, fun i hi => ?_, fun i hi => ?_⟩
  · have hd : P.d β ≠ 0 := by have := g.pos; omega
    refine Int.eq_of_mul_eq_mul_left hd ?_
    rw [← sm_mul]
    have e1 : (sm P.m fun i => P.d β * (P.T (piv β r c) i j * P.col (piv β r c i) k)) = sm P.m fun i => (if i = r then P.d β * P.T β r j * P.col c k else 0) + (if i = r then 0 else P.T β i j * P.col (β i) k) * P.T β r c - (if i = r then 0 else P.T β i c * P.col (β i) k) * P.T β r j := by
      refine sm_congr fun i hi => ?_
      by_cases q : i = r
      · subst q
        rw [T_piv_row]
        simp [piv]
        grind
      · have := T_piv (c := c) g t.rm hi q j
        have ep : piv β r c i = β i := if_neg q
        rw [ep, if_neg q, if_neg q, if_neg q]
        grind
    rw [e1, sm_sub, sm_add, sm_mulr, sm_mulr, sm_one (r := r) t.rm (fun i _ hn => by simp [hn])]
    have e3 := sm_pick (n := P.m) (r := r) (f := fun i => P.T β i j * P.col (β i) k) t.rm
    have e4 := sm_pick (n := P.m) (r := r) (f := fun i => P.T β i c * P.col (β i) k) t.rm
    have e5 := g.cram j k hk
    have e6 := g.cram c k hk
    simp only [if_true] at *
    rw [dp]
    grind
  · unfold piv
    split
    · have := t.cn; omega
    · exact g.lt i hi
  · unfold piv
    split
    · have := t.rm; omega
    · exact g.out i hi
  · by_cases q : i = r
    · subst q
      rw [T_piv_row]
      exact g.nn i hi
    · have e := T_piv (c := c) g t.rm hi q P.rh
      have h0 : 0 ≤ P.T β i P.rh * P.T β r c - P.T β i c * P.T β r P.rh := by
        by_cases h : 0 < P.T β i c
        · have := t.least i hi h
          have e2 : P.T β r P.rh * P.T β i c = P.T β i c * P.T β r P.rh := Int.mul_comm _ _
          omega
        · have h1 := Int.mul_nonneg (g.nn i hi) (Int.le_of_lt t.pos)
          have h2 := Int.mul_nonneg (show 0 ≤ - P.T β i c by omega) (g.nn r t.rm)
          rw [Int.neg_mul] at h2
          omega
      rw [← e] at h0
      exact Int.nonneg_of_mul_nonneg_right h0 g.pos
end
theorem start_good : P.Good P.start := by
  have eb : ∀ i, i < P.m → P.col (P.start i) = unitR i := fun i hi => by
    unfold col start
    rw [if_pos hi, if_neg (by omega), if_pos (by omega)]
    have q : P.n + i - P.n = i := by omega
    rw [q]
  have ed : P.d P.start = 1 := by
    unfold d
    rw [det_congr (C := unitR) (fun i k hi _ => by unfold bas; rw [eb i hi])]
    exact det_unit _
  have eT : ∀ i j, i < P.m → P.T P.start i j = P.col j i := fun i j hi => by
    unfold T
    rw [det_congr (C := setR unitR i (P.col j)) (fun a k ha _ => by
      unfold setR
      split
      · rfl
      · unfold bas; rw [eb a ha])]
    have e : det P.m (setR unitR i (P.col j)) = det P.m (setR unitR i (fun k => sm P.m fun l => P.col j l * unitR l k)) := det_setR_congr _ _ fun k hk => by
      rw [sm_one (r := k) hk (fun l _ hn => by simp [unitR, hn])]
      simp [unitR]
    rw [e, det_sum _ hi, sm_one (r := i) hi (fun l hl hn => by
      have z : det P.m (setR unitR i (unitR l)) = 0 := det_same hi hl (Ne.symm hn) (by rw [setR_same, setR_ne hn])
      rw [z, Int.mul_zero]), setR_self, det_unit]
    exact Int.mul_one _
  refine ⟨by rw [ed]; decide, fun j k hk => ?_, fun i hi => ?_, fun i hi => ?_, fun i hi => ?_⟩
  · rw [ed, sm_one (r := k) hk (fun i hi hn => by rw [eb i hi]; simp [unitR, hn]), eb k hk, eT k j hk]
    simp [unitR]
  · unfold start; rw [if_pos hi]; omega
  · unfold start; rw [if_neg (by omega)]
  · rw [eT i _ hi]
    unfold col rh
    rw [if_neg (by omega), if_neg (by omega)]
    exact P.nonneg i hi
theorem start_T {i : Nat} (j : Nat) (hi : i < P.m) : P.T P.start i j = P.col j i := by
  have g := start_good (P := P)
  have eb : ∀ i, i < P.m → P.col (P.start i) = unitR i := fun i hi => by
    unfold col start
    rw [if_pos hi, if_neg (by omega), if_pos (by omega)]
    have q : P.n + i - P.n = i := by omega
    rw [q]
  have ed : P.d P.start = 1 := by
    unfold d
    rw [det_congr (C := unitR) (fun i k hi _ => by unfold bas; rw [eb i hi])]
    exact det_unit _
  have e := g.cram j i hi
  rw [ed, sm_one (r := i) hi (fun l hl hn => by rw [eb l hl]; simp [unitR, hn]), eb i hi] at e
  simp [unitR] at e
  exact e.symm
theorem start_d : P.d P.start = 1 := by
  have eb : ∀ i, i < P.m → P.col (P.start i) = unitR i := fun i hi => by
    unfold col start
    rw [if_pos hi, if_neg (by omega), if_pos (by omega)]
    have q : P.n + i - P.n = i := by omega
    rw [q]
  unfold d
  rw [det_congr (C := unitR) (fun i k hi _ => by unfold bas; rw [eb i hi])]
  exact det_unit _
/-- an endless run that comes back after L turns -/
structure Loop (P : LP) (g : Nat → Nat → Nat) (c r : Nat → Nat) (L : Nat) : Prop where
  good : ∀ k, P.Good (g k)
  turn : ∀ k, P.Turn (g k) (c k) (r k)
  next : ∀ k, g (k + 1) = piv (g k) (r k) (c k)
  back : ∀ k, g (k + L) = g k
  pos : 0 < L
namespace Loop
variable {g : Nat → Nat → Nat} {c r : Nat → Nat} {L : Nat}
theorem backs (z : Loop P g c r L) (k q : Nat) : g (k + L * q) = g k := by
  induction q with
  | zero => rfl
  | succ q ih =>
    have e : k + L * (q + 1) = (k + L * q) + L := by rw [Nat.mul_succ]; omega
    rw [e, z.back, ih]
theorem rise (z : Loop P g c r L) (k : Nat) : P.d (g k) * P.G (g (k + 1)) P.rh = P.d (g (k + 1)) * P.G (g k) P.rh - P.G (g k) (c k) * P.T (g k) (r k) P.rh := by
  have t := z.turn k
  rw [z.next k, G_piv (z.good k) t.rm t.cn, d_piv]
/-- every turn stays in place -/
theorem flat (z : Loop P g c r L) (k : Nat) : P.T (g k) (r k) P.rh = 0 := by
  have h0 := (z.good k).nn (r k) (z.turn k).rm
  by_cases e : P.T (g k) (r k) P.rh = 0
  · exact e
  · exfalso
    have hp : 0 < P.T (g k) (r k) P.rh := by omega
    have up : ∀ l, P.G (g k) P.rh * P.d (g (k + (l + 1))) < P.G (g (k + (l + 1))) P.rh * P.d (g k) := by
      intro l
      induction l with
      | zero =>
        have e1 := z.rise k
        have e2 := Int.mul_pos (show 0 < - P.G (g k) (c k) by have := (z.turn k).neg; omega) hp
        rw [Int.neg_mul] at e2
        have e3 : P.G (g k) P.rh * P.d (g (k + 1)) = P.d (g (k + 1)) * P.G (g k) P.rh := Int.mul_comm _ _
        have e4 : P.G (g (k + 1)) P.rh * P.d (g k) = P.d (g k) * P.G (g (k + 1)) P.rh := Int.mul_comm _ _
        simp only [Nat.zero_add]
        omega
      | succ l ih =>
        have da := (z.good (k + (l + 1))).pos
        have d1 := (z.good (k + (l + 1) + 1)).pos
        have d0 := (z.good k).pos
        have e1 := z.rise (k + (l + 1))
        have e2 := Int.mul_nonneg (show 0 ≤ - P.G (g (k + (l + 1))) (c (k + (l + 1))) by have := (z.turn (k + (l + 1))).neg; omega) ((z.good (k + (l + 1))).nn _ (z.turn (k + (l + 1))).rm)
        rw [Int.neg_mul] at e2
        have e3 : P.d (g (k + (l + 1) + 1)) * P.G (g (k + (l + 1))) P.rh ≤ P.d (g (k + (l + 1))) * P.G (g (k + (l + 1) + 1)) P.rh := by omega
        have e4 := Int.mul_le_mul_of_nonneg_right e3 (Int.le_of_lt d0)
        have e5 := Int.mul_lt_mul_of_pos_left ih d1
        have e6 : P.d (g (k + (l + 1))) * (P.G (g k) P.rh * P.d (g (k + (l + 1) + 1))) < P.d (g (k + (l + 1))) * (P.G (g (k + (l + 1) + 1)) P.rh * P.d (g k)) := by
          have q1 : P.d (g (k + (l + 1))) * (P.G (g k) P.rh * P.d (g (k + (l + 1) + 1))) = P.d (g (k + (l + 1) + 1)) * (P.G (g k) P.rh * P.d (g (k + (l + 1)))) := by grind
          have q2 : P.d (g (k + (l + 1))) * (P.G (g (k + (l + 1) + 1)) P.rh * P.d (g k)) = P.d (g (k + (l + 1))) * P.G (g (k + (l + 1) + 1)) P.rh * P.d (g k) := by grind
          have q3 : P.d (g (k + (l + 1) + 1)) * (P.G (g (k + (l + 1))) P.rh * P.d (g k)) = P.d (g (k + (l + 1) + 1)) * P.G (g (k + (l + 1))) P.rh * P.d (g k) := by grind
          omega
        exact Int.lt_of_mul_lt_mul_left e6 (Int.le_of_lt da)
    have e1 := up (L - 1)
    have e2 : k + (L - 1 + 1) = k + L := by have := z.pos; omega
    rw [e2, z.back k] at e1
    omega
/-- a variable that goes leaves at some turn, and stood at 0 -/
theorem goes (z : Loop P g c r L) : ∀ (l a i : Nat), i < P.m → (∀ i', i' < P.m → g (a + l) i' ≠ g a i) → P.T (g a) i P.rh = 0 ∧ ∃ k, g k (r k) = g a i
  | 0, a, i, hi, h => absurd rfl (h i hi)
  | l + 1, a, i, hi, h => by
    by_cases e : i = r a
    · rw [e]
      exact ⟨z.flat a, a, rfl⟩
    · have e1 : g (a + 1) i = g a i := by
        rw [z.next a]
        unfold piv
        rw [if_neg e]
      have h2 : ∀ i', i' < P.m → g (a + 1 + l) i' ≠ g (a + 1) i := fun i' hi' => by
        rw [e1]
        have q : a + 1 + l = a + (l + 1) := by omega
        rw [q]
        exact h i' hi'
      obtain ⟨h3, k, h4⟩ := goes z l (a + 1) i hi h2
      refine ⟨?_, k, h4.trans e1⟩
      have e2 := T_piv (c := c a) (z.good a) (z.turn a).rm hi e P.rh
      rw [← z.next a, h3, z.flat a] at e2
      have e3 : P.T (g a) i P.rh * P.T (g a) (r a) (c a) = 0 := by omega
      rcases Int.mul_eq_zero.mp e3 with q | q
      · exact q
      · have := (z.turn a).pos; omega
/-- what leaves comes again -/
theorem comes (z : Loop P g c r L) (k : Nat) : ∃ k', c k' = g k (r k) := by
  by_cases e : ∃ k', c k' = g k (r k)
  · exact e
  · exfalso
    have no : ∀ l i, i < P.m → g (k + 1 + l) i ≠ g k (r k) := by
      intro l
      induction l with
      | zero =>
        intro i hi q
        have q' : piv (g k) (r k) (c k) i = g k (r k) := by rw [← z.next k]; exact q
        unfold piv at q'
        split at q'
        · exact e ⟨k, q'⟩
        · rename_i h
          exact h (inj (z.good k).pos hi (z.turn k).rm q')
      | succ l ih =>
        intro i hi q
        have q' : piv (g (k + 1 + l)) (r (k + 1 + l)) (c (k + 1 + l)) i = g k (r k) := by rw [← z.next]; exact q
        unfold piv at q'
        split at q'
        · exact e ⟨_, q'⟩
        · exact ih i hi q'
    have e1 := no (L - 1) (r k) (z.turn k).rm
    have e2 : k + 1 + (L - 1) = k + L := by have := z.pos; omega
    rw [e2, z.back k] at e1
    exact e1 rfl
/-- the greatest number that comes -/
theorem top (z : Loop P g c r L) : ∃ k, ∀ k', c k' ≤ c k := by
  have key : ∀ b, (∀ k, c k < P.n - b) ∨ ∃ k, ∀ k', c k' ≤ c k := by
    intro b
    induction b with
    | zero => exact .inl fun k => (z.turn k).cn
    | succ b ih =>
      rcases ih with h | h
      · by_cases e : ∃ k, c k = P.n - (b + 1)
        · obtain ⟨k, e⟩ := e
          refine .inr ⟨k, fun k' => ?_⟩
          have := h k'
          omega
        · refine .inl fun k => ?_
          have h1 := h k
          have h2 : c k ≠ P.n - (b + 1) := fun q => e ⟨k, q⟩
          omega
      · exact .inr h
  rcases key P.n with h | h
  · have := h 0
    omega
  · exact h
theorem false (z : Loop P g c r L) : False := by
  obtain ⟨k2, top⟩ := z.top
  have t2 := z.turn k2
  have g2 := z.good k2
  -- t leaves at k1
  have nb : ∀ i, i < P.m → g k2 i ≠ c k2 := fun i hi q => by
    have e := G_basic g2.pos hi
    rw [q] at e
    have := t2.neg
    omega
  have e1 : g (k2 + 1) (r k2) = c k2 := by
    rw [z.next k2]
    unfold piv
    rw [if_pos rfl]
  obtain ⟨_, k1, hk1⟩ := z.goes (L - 1) (k2 + 1) (r k2) t2.rm (fun i' hi' => by
    have q : k2 + 1 + (L - 1) = k2 + L := by have := z.pos; omega
    rw [q, z.back k2, e1]
    exact nb i' hi')
  rw [e1] at hk1
  have t1 := z.turn k1
  have g1 := z.good k1
  have idn := G_cram g1 (g k2) (c k1)
  have hs : c k1 ≠ c k2 := fun q => by
    have e := G_basic g1.pos t1.rm
    rw [hk1, ← q] at e
    have := t1.neg
    omega
  have hs2 : 0 ≤ P.G (g k2) (c k1) := t2.first _ (by have := top k1; omega)
  have terms : sm P.m (fun i => P.T (g k1) i (c k1) * P.G (g k2) (g k1 i)) ≤ 0 := by
    have h0 : sm P.m (fun i => P.T (g k1) i (c k1) * P.G (g k2) (g k1 i)) ≤ sm P.m (fun _ => 0) := sm_le fun i hi => by
      by_cases e : i = r k1
      · rw [e, hk1]
        have := Int.mul_pos t1.pos (show 0 < - P.G (g k2) (c k2) by have := t2.neg; omega)
        rw [Int.mul_neg] at this
        omega
      · by_cases b : ∃ l, l < P.m ∧ g k2 l = g k1 i
        · obtain ⟨l, hl, el⟩ := b
          have q := G_basic g2.pos hl
          rw [← el, q, Int.mul_zero]
          exact Int.le_refl _
        · have hk : k1 ≤ L * k1 := Nat.le_mul_of_pos_left _ z.pos
          obtain ⟨h1, k, h2⟩ := z.goes (k2 + L * k1 - k1) k1 i hi (fun i' hi' q => by
            have q2 : k1 + (k2 + L * k1 - k1) = k2 + L * k1 := by omega
            rw [q2, z.backs] at q
            exact b ⟨i', hi', q⟩)
          obtain ⟨k', h3⟩ := z.comes k
          have h4 := top k'
          rw [h3, h2] at h4
          have h5 : g k1 i ≠ c k2 := fun q => e (inj g1.pos hi t1.rm (q.trans hk1.symm))
          have h6 : 0 ≤ P.G (g k2) (g k1 i) := t2.first _ (by omega)
          have h7 : P.T (g k1) i (c k1) ≤ 0 := by
            by_cases p : 0 < P.T (g k1) i (c k1)
            · have h8 := t1.tie i hi p (by rw [h1, z.flat k1]; simp)
              rw [hk1] at h8
              omega
            · omega
          have := Int.mul_nonneg (show 0 ≤ - P.T (g k1) i (c k1) by omega) h6
          rw [Int.neg_mul] at this
          omega
    rw [sm_zero (fun _ _ => rfl)] at h0
    exact h0
  have hl := Int.mul_nonneg (Int.le_of_lt g1.pos) hs2
  have hr := Int.mul_pos g2.pos (show 0 < - P.G (g k1) (c k1) by have := t1.neg; omega)
  rw [Int.mul_neg] at hr
  omega
end Loop
theorem pigeon : ∀ (S : Nat) (f : Nat → Nat), (∀ i, i ≤ S → f i < S) → ∃ i j, i < j ∧ j ≤ S ∧ f i = f j
  | 0, f, h => absurd (h 0 (Nat.le_refl _)) (Nat.not_lt_zero _)
  | S + 1, f, h => by
    by_cases e : ∃ i, i ≤ S ∧ f i = f (S + 1)
    · obtain ⟨i, hi, e⟩ := e
      exact ⟨i, S + 1, by omega, Nat.le_refl _, e⟩
    · have ne : ∀ i, i ≤ S → f i ≠ f (S + 1) := fun i hi q => e ⟨i, hi, q⟩
      obtain ⟨i, j, h1, h2, h3⟩ := pigeon S (fun i => if f i < f (S + 1) then f i else f i - 1) (fun i hi => by
        have a := h i (by omega)
        have b := h (S + 1) (Nat.le_refl _)
        have := ne i hi
        show (if f i < f (S + 1) then f i else f i - 1) < S
        split <;> omega)
      refine ⟨i, j, h1, by omega, ?_⟩
      have a := ne i (by omega)
      have b := ne j h2
      have h3' : (if f i < f (S + 1) then f i else f i - 1) = (if f j < f (S + 1) then f j else f j - 1) := h3
      split at h3' <;> split at h3' <;> omega
def code (S : Nat) (β : Nat → Nat) : Nat → Nat
  | 0 => 0
  | i + 1 => code S β i * S + β i
theorem code_lt {S : Nat} {β : Nat → Nat} : ∀ {m : Nat}, (∀ i, i < m → β i < S) → code S β m < S ^ m
  | 0, _ => by simp [code]
  | m + 1, h => by
    have h1 := code_lt (m := m) (fun i hi => h i (by omega))
    have h2 := h m (by omega)
    have h3 : (code S β m + 1) * S ≤ S ^ m * S := Nat.mul_le_mul_right _ h1
    rw [Nat.pow_succ]
    rw [Nat.succ_mul] at h3
    show code S β m * S + β m < S ^ m * S
    omega
theorem code_inj {S : Nat} {β γ : Nat → Nat} : ∀ {m : Nat}, (∀ i, i < m → β i < S) → (∀ i, i < m → γ i < S) → code S β m = code S γ m → ∀ i, i < m → β i = γ i
  | 0, _, _, _, i, hi => by omega
  | m + 1, hb, hg, e, i, hi => by
    have h1 := hb m (by omega)
    have h2 := hg m (by omega)
    have e' : code S β m * S + β m = code S γ m * S + γ m := e
    have hS : 0 < S := by omega
    have e1 : (code S β m * S + β m) % S = β m := by rw [Nat.mul_comm, Nat.mul_add_mod, Nat.mod_eq_of_lt h1]
    have e2 : (code S γ m * S + γ m) % S = γ m := by rw [Nat.mul_comm, Nat.mul_add_mod, Nat.mod_eq_of_lt h2]
    have e3 : β m = γ m := by rw [← e1, ← e2, e']
    have e4 : code S β m = code S γ m := by
      have q : code S β m * S = code S γ m * S := by omega
      exact Nat.eq_of_mul_eq_mul_right hS q
    rcases Nat.lt_or_ge i m with q | q
    · exact code_inj (fun i hi => hb i (by omega)) (fun i hi => hg i (by omega)) e4 i q
    · have : i = m := by omega
      rw [this]
      exact e3
/-- k turns from the start -/
inductive Run (P : LP) : Nat → (Nat → Nat) → Prop
  | nil : Run P 0 P.start
  | cons {k : Nat} {β : Nat → Nat} {c r : Nat} : Run P k β → P.Turn β c r → Run P (k + 1) (piv β r c)
theorem Run.good {k : Nat} (h : P.Run k β) : P.Good β := by
  induction h with
  | nil => exact start_good
  | cons _ t ih => exact t.good ih
/-- the run as a sequence -/
theorem Run.seq {k : Nat} (h : P.Run k β) : ∃ f : Nat → Nat → Nat, f k = β ∧ (∀ i, i ≤ k → P.Good (f i)) ∧ ∀ i, i < k → ∃ c r, P.Turn (f i) c r ∧ f (i + 1) = piv (f i) r c := by
  induction h with
  | nil => exact ⟨fun _ => P.start, rfl, fun _ _ => start_good, fun i hi => by omega⟩
  | @cons k β c r h t ih =>
    obtain ⟨f, e, hg, hs⟩ := ih
    refine ⟨fun i => if i ≤ k then f i else piv β r c, if_neg (by omega), fun i hi => ?_, fun i hi => ?_⟩
    · show P.Good (if i ≤ k then f i else piv β r c)
      split
      · exact hg i (by assumption)
      · exact t.good h.good
    · show ∃ c' r', P.Turn (if i ≤ k then f i else piv β r c) c' r' ∧ (if i + 1 ≤ k then f (i + 1) else piv β r c) = piv (if i ≤ k then f i else piv β r c) r' c'
      by_cases q : i < k
      · rw [if_pos (by omega), if_pos (by omega)]
        exact hs i q
      · have : i = k := by omega
        subst this
        rw [if_pos (Nat.le_refl _), if_neg (by omega), e]
        exact ⟨c, r, t, rfl⟩
theorem Run.ends {k : Nat} (h : P.Run k β) : k < (P.n + P.m) ^ P.m := by
  rcases Nat.lt_or_ge k ((P.n + P.m) ^ P.m) with q | q
  · exact q
  · exfalso
    obtain ⟨f, _, hg, hs⟩ := h.seq
    obtain ⟨i, j, h1, h2, h3⟩ := pigeon ((P.n + P.m) ^ P.m) (fun i => code (P.n + P.m) (f i) P.m) (fun i hi => code_lt fun l hl => (hg i (by omega)).lt l hl)
    have gi := hg i (by omega)
    have gj := hg j (by omega)
    have e : f i = f j := by
      funext l
      rcases Nat.lt_or_ge l P.m with u | u
      · exact code_inj (fun l hl => gi.lt l hl) (fun l hl => gj.lt l hl) h3 l u
      · rw [gi.out l u, gj.out l u]
    have hst : ∀ a, ∃ p : Nat × Nat, P.Turn (f (i + a % (j - i))) p.1 p.2 ∧ f (i + (a + 1) % (j - i)) = piv (f (i + a % (j - i))) p.2 p.1 := fun a => by
      have hm : a % (j - i) < j - i := Nat.mod_lt _ (by omega)
      obtain ⟨c, r, t, en⟩ := hs (i + a % (j - i)) (by omega)
      refine ⟨(c, r), t, ?_⟩
      rw [← en]
      by_cases u : a % (j - i) + 1 < j - i
      · have : (a + 1) % (j - i) = a % (j - i) + 1 := by
          rw [Nat.add_mod]
          by_cases w : j - i = 1
          · omega
          · rw [Nat.mod_eq_of_lt (a := 1) (by omega), Nat.mod_eq_of_lt u]
        rw [this]
        rfl
      · have w : a % (j - i) + 1 = j - i := by omega
        have : (a + 1) % (j - i) = 0 := by
          have q2 : (a + 1) % (j - i) = (a % (j - i) + 1) % (j - i) := by
            rw [Nat.mod_add_mod]
          rw [q2, w, Nat.mod_self]
        rw [this]
        have q3 : i + a % (j - i) + 1 = j := by omega
        rw [q3]
        exact e
    refine Loop.false (P := P) (g := fun a => f (i + a % (j - i))) (c := fun a => (Classical.choose (hst a)).1) (r := fun a => (Classical.choose (hst a)).2) (L := j - i) ⟨fun a => ?_, fun a => ?_, fun a => ?_, fun a => ?_, by omega⟩
    · have hm : a % (j - i) < j - i := Nat.mod_lt _ (by omega)
      exact hg _ (by omega)
    · exact (Classical.choose_spec (hst a)).1
    · exact (Classical.choose_spec (hst a)).2
    · show f (i + (a + (j - i)) % (j - i)) = f (i + a % (j - i))
      rw [Nat.add_mod_right]
/-- there is always a row -/
theorem row_there (g : P.Good β) {c : Nat} (hc : c < P.n) (neg : P.G β c < 0) : ∃ i, i < P.m ∧ 0 < P.T β i c := by
  by_cases e : ∃ i, i < P.m ∧ 0 < P.T β i c
  · exact e
  · exfalso
    have p0 : P.pr c = 0 := by unfold pr; rw [if_neg (by omega)]
    have h : sm P.m (fun i => P.pr (β i) * P.T β i c) ≤ sm P.m (fun _ => 0) := sm_le fun i hi => by
      have h1 : ¬ 0 < P.T β i c := fun q => e ⟨i, hi, q⟩
      have h2 : 0 ≤ P.pr (β i) := by unfold pr; split <;> decide
      have := Int.mul_nonneg h2 (show 0 ≤ - P.T β i c by omega)
      rw [Int.mul_neg] at this
      omega
    rw [sm_zero (fun _ _ => rfl)] at h
    unfold G at neg
    rw [p0] at neg
    omega
/-- y as the program takes it from the goal's row -/
def y (P : LP) (β : Nat → Nat) (k : Nat) : Int := P.d β - P.G β (P.n + k)
theorem y_phi {k : Nat} (hk : k < P.m) : P.y β k = P.phi β (unitR k) := by
  unfold y
  rw [G_eq]
  have e : P.col (P.n + k) = unitR k := by
    unfold col
    rw [if_neg (by omega), if_pos (by omega)]
    have q : P.n + k - P.n = k := by omega
    rw [q]
  have p : P.pr (P.n + k) = 1 := by unfold pr; rw [if_pos (by omega)]
  rw [e, p]
  omega
theorem y_col (j : Nat) (hj : P.pr j = 0) : (sm P.m fun k => P.col j k * P.y β k) = - P.G β j := by
  have e : (sm P.m fun k => P.col j k * P.y β k) = P.phi β (P.col j) := by
    rw [phi_units]
    exact sm_congr fun k hk => by rw [y_phi hk]
  rw [e, G_eq, hj]
  omega
/-- no numbers: what y says -/
theorem none_says (hG : ∀ j, j < P.n → 0 ≤ P.G β j) (neg : P.G β P.rh < 0) : (∀ j, j < P.n → (sm P.m fun k => P.A j k * P.y β k) ≤ 0) ∧ 0 < sm P.m fun k => P.b k * P.y β k := by
  constructor
  · intro j hj
    have e := y_col (P := P) (β := β) j (by unfold pr; rw [if_neg (by omega)])
    have c : P.col j = P.A j := by unfold col; rw [if_pos hj]
    rw [c] at e
    have := hG j hj
    omega
  · have e := y_col (P := P) (β := β) P.rh (by unfold pr rh; rw [if_neg (by omega)])
    have c : P.col P.rh = P.b := by unfold col rh; rw [if_neg (by omega), if_neg (by omega)]
    rw [c] at e
    omega
/-- numbers: they are there -/
theorem some_says (g : P.Good β) (pos : 0 ≤ P.G β P.rh) : ∃ x : Nat → Int, (∀ j, 0 ≤ x j) ∧ ∀ k, k < P.m → P.d β * P.b k = sm P.n fun j => x j * P.A j k := by
  have c : P.col P.rh = P.b := by unfold col rh; rw [if_neg (by omega), if_neg (by omega)]
  have z : ∀ i, i < P.m → P.n ≤ β i → P.T β i P.rh = 0 := fun i hi hb => by
    have e : P.G β P.rh = - sm P.m fun i => P.pr (β i) * P.T β i P.rh := by
      unfold G
      have p0 : P.pr P.rh = 0 := by unfold pr rh; rw [if_neg (by omega)]
      rw [p0]
      omega
    rw [sm_pick (r := i) hi] at e
    have p1 : P.pr (β i) = 1 := by unfold pr; rw [if_pos ⟨hb, g.lt i hi⟩]
    have h1 : 0 ≤ sm P.m fun l => if l = i then 0 else P.pr (β l) * P.T β l P.rh := sm_nonneg fun l hl => by
      show 0 ≤ if l = i then 0 else P.pr (β l) * P.T β l P.rh
      split
      · exact Int.le_refl _
      · exact Int.mul_nonneg (by unfold pr; split <;> decide) (g.nn l hl)
    have h2 := g.nn i hi
    rw [p1] at e
    omega
  refine ⟨fun j => sm P.m fun i => if β i = j then P.T β i P.rh else 0, fun j => sm_nonneg fun i hi => ?_, fun k hk => ?_⟩
  · show 0 ≤ if β i = j then P.T β i P.rh else 0
    split
    · exact g.nn i hi
    · exact Int.le_refl _
  · have e := g.cram P.rh k hk
    rw [c] at e
    rw [e]
    have e2 : (sm P.n fun j => (sm P.m fun i => if β i = j then P.T β i P.rh else 0) * P.A j k) = sm P.n fun j => sm P.m fun i => (if β i = j then P.T β i P.rh else 0) * P.A j k :=
      sm_congr fun j _ => (sm_mulr _ _ _).symm
    rw [e2, sm_swap]
    refine sm_congr fun i hi => ?_
    rcases Nat.lt_or_ge (β i) P.n with q | q
    · rw [sm_one (r := β i) q (fun j _ hn => by rw [if_neg (Ne.symm hn), Int.zero_mul]), if_pos rfl]
      unfold col
      rw [if_pos q]
    · rw [z i hi q, sm_zero (fun j _ => by split <;> simp)]
      simp
theorem col_bound {b : Nat} (h1 : 1 ≤ b) (hA : ∀ j k, j < P.n → k < P.m → (P.A j k).natAbs ≤ b) (hb : ∀ k, k < P.m → (P.b k).natAbs ≤ b) (j k : Nat) (hk : k < P.m) : (P.col j k).natAbs ≤ b := by
  unfold col
  split
  · exact hA j k (by assumption) hk
  · split
    · unfold unitR
      split
      · exact h1
      · exact Nat.zero_le _
    · exact hb k hk
theorem T_bound {b : Nat} (h1 : 1 ≤ b) (hA : ∀ j k, j < P.n → k < P.m → (P.A j k).natAbs ≤ b) (hb : ∀ k, k < P.m → (P.b k).natAbs ≤ b) (i j : Nat) : (P.T β i j).natAbs ≤ detMax b P.m :=
  det_bound b fun a k _ hk => by
    unfold setR
    split
    · exact col_bound h1 hA hb _ _ hk
    · exact col_bound h1 hA hb _ _ hk
theorem d_bound {b : Nat} (h1 : 1 ≤ b) (hA : ∀ j k, j < P.n → k < P.m → (P.A j k).natAbs ≤ b) (hb : ∀ k, k < P.m → (P.b k).natAbs ≤ b) : (P.d β).natAbs ≤ detMax b P.m :=
  det_bound b fun _ _ _ hk => col_bound h1 hA hb _ _ hk
theorem sm_bound {n c : Nat} {f : Nat → Int} (h : ∀ i, i < n → (f i).natAbs ≤ c) : (sm n f).natAbs ≤ n * c := by
  induction n with
  | zero => simp [sm]
  | succ n ih =>
    simp only [sm]
    have h1 := ih (fun i hi => h i (by omega))
    have h2 := h n (by omega)
    have h3 := Int.natAbs_add_le (sm n f) (f n)
    rw [Nat.succ_mul]
    omega
theorem G_bound {b : Nat} (h1 : 1 ≤ b) (hA : ∀ j k, j < P.n → k < P.m → (P.A j k).natAbs ≤ b) (hb : ∀ k, k < P.m → (P.b k).natAbs ≤ b) (j : Nat) : (P.G β j).natAbs ≤ (P.m + 1) * detMax b P.m := by
  unfold G
  have p : ∀ j, (P.pr j).natAbs ≤ 1 := fun j => by unfold pr; split <;> decide
  have e1 : (P.d β * P.pr j).natAbs ≤ detMax b P.m := by
    rw [Int.natAbs_mul]
    exact Nat.le_trans (Nat.mul_le_mul (d_bound h1 hA hb) (p j)) (by omega)
  have e2 : (sm P.m fun i => P.pr (β i) * P.T β i j).natAbs ≤ P.m * detMax b P.m := sm_bound fun i _ => by
    rw [Int.natAbs_mul]
    exact Nat.le_trans (Nat.mul_le_mul (p (β i)) (T_bound h1 hA hb i j)) (by omega)
  have e3 := Int.natAbs_sub_le (P.d β * P.pr j) (sm P.m fun i => P.pr (β i) * P.T β i j)
  rw [Nat.succ_mul]
  omega
end LP
end K49

namespace K49
def halfF (i : Nat) (rows : List (List Bool)) : List (List Bool) := rows.filter fun l => !l.getD i false
def halfT (i : Nat) (rows : List (List Bool)) : List (List Bool) := rows.filter fun l => l.getD i false
theorem half_len (i : Nat) (rows : List (List Bool)) : (halfF i rows).length + (halfT i rows).length = rows.length := by
  induction rows with
  | nil => rfl
  | cons a l ih =>
    unfold halfF halfT at *
    rw [List.filter_cons, List.filter_cons]
    cases h : a.getD i false <;> simp only [h, Bool.not_false, Bool.not_true, if_true, if_false, List.length_cons, Bool.false_eq_true] <;> omega
def split (i : Nat) (rows : List (List Bool)) : Bool := !(halfF i rows).isEmpty && !(halfT i rows).isEmpty
theorem split_lt {i : Nat} {rows : List (List Bool)} (h : split i rows = true) : 1 ≤ (halfF i rows).length ∧ 1 ≤ (halfT i rows).length ∧ (halfF i rows).length < rows.length ∧ (halfT i rows).length < rows.length := by
  have z := half_len i rows
  unfold split at h
  rw [Bool.and_eq_true] at h
  have h1 : halfF i rows ≠ [] := by
    intro e
    rw [e] at h
    simp at h
  have h2 : halfT i rows ≠ [] := by
    intro e
    rw [e] at h
    simp at h
  have h3 := List.length_pos_iff.mpr h1
  have h4 := List.length_pos_iff.mpr h2
  omega
def minL : List Int → Int
  | [] => 0
  | a :: l => l.foldl min a
def maxL : List Int → Int
  | [] => 0
  | a :: l => l.foldl max a
theorem foldl_min (l : List Int) : ∀ a : Int, (l.foldl min a = a ∨ l.foldl min a ∈ l) ∧ l.foldl min a ≤ a ∧ ∀ x ∈ l, l.foldl min a ≤ x := by
  induction l with
  | nil => intro a; exact ⟨.inl rfl, Int.le_refl _, fun _ h => nomatch h⟩
  | cons b l ih =>
    intro a
    obtain ⟨h1, h2, h3⟩ := ih (min a b)
    rw [List.foldl_cons]
    refine ⟨?_, by omega, fun x hx => ?_⟩
    · rcases h1 with h1 | h1
      · rw [h1]
        by_cases h : a ≤ b
        · exact .inl (by omega)
        · exact .inr (by rw [show min a b = b by omega]; exact List.mem_cons_self ..)
      · exact .inr (List.mem_cons_of_mem _ h1)
    · rcases List.mem_cons.mp hx with rfl | hx
      · omega
      · exact h3 x hx
theorem foldl_max (l : List Int) : ∀ a : Int, (l.foldl max a = a ∨ l.foldl max a ∈ l) ∧ a ≤ l.foldl max a ∧ ∀ x ∈ l, x ≤ l.foldl max a := by
  induction l with
  | nil => intro a; exact ⟨.inl rfl, Int.le_refl _, fun _ h => nomatch h⟩
  | cons b l ih =>
    intro a
    obtain ⟨h1, h2, h3⟩ := ih (max a b)
    rw [List.foldl_cons]
    refine ⟨?_, by omega, fun x hx => ?_⟩
    · rcases h1 with h1 | h1
      · rw [h1]
        by_cases h : b ≤ a
        · exact .inl (by omega)
        · exact .inr (by rw [show max a b = b by omega]; exact List.mem_cons_self ..)
      · exact .inr (List.mem_cons_of_mem _ h1)
    · rcases List.mem_cons.mp hx with rfl | hx
      · omega
      · exact h3 x hx
theorem minL_is {l : List Int} {m : Int} (h1 : m ∈ l) (h2 : ∀ x ∈ l, m ≤ x) : m = minL l := by
  cases l with
  | nil => exact nomatch h1
  | cons a l =>
    obtain ⟨z1, z2, z3⟩ := foldl_min l a
    have z4 : minL (a :: l) ∈ a :: l := by
      rcases z1 with z | z
      · exact List.mem_cons.mpr (.inl z)
      · exact List.mem_cons.mpr (.inr z)
    have z5 := h2 _ z4
    have z6 : minL (a :: l) ≤ m := by
      rcases List.mem_cons.mp h1 with rfl | h
      · exact z2
      · exact z3 m h
    omega
theorem maxL_is {l : List Int} {m : Int} (h1 : m ∈ l) (h2 : ∀ x ∈ l, x ≤ m) : m = maxL l := by
  cases l with
  | nil => exact nomatch h1
  | cons a l =>
    obtain ⟨z1, z2, z3⟩ := foldl_max l a
    have z4 : maxL (a :: l) ∈ a :: l := by
      rcases z1 with z | z
      · exact List.mem_cons.mpr (.inl z)
      · exact List.mem_cons.mpr (.inr z)
    have z5 := h2 _ z4
    have z6 : m ≤ maxL (a :: l) := by
      rcases List.mem_cons.mp h1 with rfl | h
      · exact z2
      · exact z3 m h
    omega
theorem minL_mem {l : List Int} (h : l ≠ []) : minL l ∈ l := by
  cases l with
  | nil => exact absurd rfl h
  | cons a l =>
    obtain ⟨z1, z2, z3⟩ := foldl_min l a
    rcases z1 with z | z
    · exact List.mem_cons.mpr (.inl z)
    · exact List.mem_cons.mpr (.inr z)
theorem maxL_mem {l : List Int} (h : l ≠ []) : maxL l ∈ l := by
  cases l with
  | nil => exact absurd rfl h
  | cons a l =>
    obtain ⟨z1, z2, z3⟩ := foldl_max l a
    rcases z1 with z | z
    · exact List.mem_cons.mpr (.inl z)
    · exact List.mem_cons.mpr (.inr z)
/-- the values of the indexes that split, f of the two halves -/
def overSplits (n : Nat) (f : List (List Bool) → List (List Bool) → Int) (rows : List (List Bool)) : List Int := ((List.range n).filter fun i => split i rows).map fun i => f (halfF i rows) (halfT i rows)
def costF (n : Nat) : Nat → List (List Bool) → Int
  | 0, _ => 0
  | f + 1, rows => if rows.length = 1 then 0 else minL (overSplits n (fun a b => 1 + max (costF n f a) (costF n f b)) rows)
def depF (n : Nat) : Nat → List (List Bool) → Int
  | 0, _ => 0
  | f + 1, rows => maxL (0 :: overSplits n (fun a b => 1 + min (depF n f a) (depF n f b)) rows)
def cost (n : Nat) (rows : List (List Bool)) : Int := costF n rows.length rows
def dep (n : Nat) (rows : List (List Bool)) : Int := depF n rows.length rows
theorem overSplits_congr {n : Nat} {f g : List (List Bool) → List (List Bool) → Int} {rows : List (List Bool)} (h : ∀ i, split i rows = true → f (halfF i rows) (halfT i rows) = g (halfF i rows) (halfT i rows)) : overSplits n f rows = overSplits n g rows := by
  unfold overSplits
  refine List.map_congr_left fun i hi => ?_
  exact h i (List.mem_filter.mp hi).2
theorem costF_enough (n : Nat) : ∀ (k : Nat) (rows : List (List Bool)), rows.length ≤ k → 1 ≤ rows.length → ∀ f, rows.length ≤ f → costF n f rows = cost n rows := by
  intro k
  induction k with
  | zero => intro rows h h1; omega
  | succ k ih =>
    intro rows h h1 f hf
    unfold cost
    obtain ⟨f', rfl⟩ : ∃ f', f = f' + 1 := ⟨f - 1, by omega⟩
    obtain ⟨g', hg⟩ : ∃ g', rows.length = g' + 1 := ⟨rows.length - 1, by omega⟩
    rw [hg]
    unfold costF
    split
    · rfl
    · congr 1
      refine overSplits_congr fun i hi => ?_
      obtain ⟨z1, z2, z3, z4⟩ := split_lt hi
      rw [ih _ (by omega) z1 f' (by omega), ih _ (by omega) z2 f' (by omega), ih _ (by omega) z1 g' (by omega), ih _ (by omega) z2 g' (by omega)]
theorem cost_eq {n : Nat} {rows : List (List Bool)} (h1 : 1 ≤ rows.length) : cost n rows = if rows.length = 1 then 0 else minL (overSplits n (fun a b => 1 + max (cost n a) (cost n b)) rows) := by
  obtain ⟨g', hg⟩ : ∃ g', rows.length = g' + 1 := ⟨rows.length - 1, by omega⟩
  unfold cost
  rw [hg]
  conv => lhs; unfold costF
  rw [hg]
  split
  · rfl
  · congr 1
    refine overSplits_congr fun i hi => ?_
    obtain ⟨z1, z2, z3, z4⟩ := split_lt hi
    have e1 := costF_enough n _ _ (Nat.le_refl _) z1 g' (by omega)
    have e2 := costF_enough n _ _ (Nat.le_refl _) z2 g' (by omega)
    rw [e1, e2]
    rfl
theorem depF_enough (n : Nat) : ∀ (k : Nat) (rows : List (List Bool)), rows.length ≤ k → 1 ≤ rows.length → ∀ f, rows.length ≤ f → depF n f rows = dep n rows := by
  intro k
  induction k with
  | zero => intro rows h h1; omega
  | succ k ih =>
    intro rows h h1 f hf
    unfold dep
    obtain ⟨f', rfl⟩ : ∃ f', f = f' + 1 := ⟨f - 1, by omega⟩
    obtain ⟨g', hg⟩ : ∃ g', rows.length = g' + 1 := ⟨rows.length - 1, by omega⟩
    rw [hg]
    unfold depF
    congr 2
    refine overSplits_congr fun i hi => ?_
    obtain ⟨z1, z2, z3, z4⟩ := split_lt hi
    rw [ih _ (by omega) z1 f' (by omega), ih _ (by omega) z2 f' (by omega), ih _ (by omega) z1 g' (by omega), ih _ (by omega) z2 g' (by omega)]
theorem dep_eq {n : Nat} {rows : List (List Bool)} (h1 : 1 ≤ rows.length) : dep n rows = maxL (0 :: overSplits n (fun a b => 1 + min (dep n a) (dep n b)) rows) := by
  obtain ⟨g', hg⟩ : ∃ g', rows.length = g' + 1 := ⟨rows.length - 1, by omega⟩
  unfold dep
  rw [hg]
  conv => lhs; unfold depF
  congr 2
  refine overSplits_congr fun i hi => ?_
  obtain ⟨z1, z2, z3, z4⟩ := split_lt hi
  have e1 := depF_enough n _ _ (Nat.le_refl _) z1 g' (by omega)
  have e2 := depF_enough n _ _ (Nat.le_refl _) z2 g' (by omega)
  rw [e1, e2]
  rfl
def fits (σ : List (Option Bool)) (l : List Bool) : Bool := (List.range σ.length).all fun i => match σ.getD i none with | none => true | some b => l.getD i false == b
theorem fits_iff {σ : List (Option Bool)} {l : List Bool} : fits σ l = true ↔ ∀ (i : Nat) (b : Bool), σ[i]? = some (some b) → l.getD i false = b := by
  unfold fits
  rw [List.all_eq_true]
  constructor
  · intro h i b hi
    have hl := (List.getElem?_eq_some_iff.mp hi).1
    have z := h i (List.mem_range.mpr hl)
    rw [show σ.getD i none = some b by simp [List.getD, hi]] at z
    simpa using z
  · intro h i hi
    have hl := List.mem_range.mp hi
    cases e : σ.getD i none with
    | none => rfl
    | some b =>
      have e2 : σ[i]? = some (some b) := by
        rw [List.getElem?_eq_getElem hl]
        simp only [List.getD, List.getElem?_eq_getElem hl, Option.getD_some] at e
        rw [e]
      show (l.getD i false == b) = true
      rw [h i b e2]
      exact beq_self_eq_true b
theorem fits_set {σ : List (Option Bool)} {l : List Bool} {i : Nat} {b : Bool} (hi : σ[i]? = some none) : fits (σ.set i (some b)) l = (fits σ l && (l.getD i false == b)) := by
  have hl := (List.getElem?_eq_some_iff.mp hi).1
  rw [Bool.eq_iff_iff, Bool.and_eq_true, fits_iff, fits_iff, beq_iff_eq]
  constructor
  · intro h
    refine ⟨fun j c hj => h j c ?_, h i b ?_⟩
    · by_cases e : i = j
      · subst e
        rw [hi] at hj
        cases hj
      · rw [List.getElem?_set_ne e]
        exact hj
    · rw [List.getElem?_set_self hl]
  · intro ⟨h1, h2⟩ j c hj
    by_cases e : i = j
    · subst e
      rw [List.getElem?_set_self hl] at hj
      cases hj
      exact h2
    · rw [List.getElem?_set_ne e] at hj
      exact h1 j c hj
def partOf (rows0 : List (List Bool)) (σ : List (Option Bool)) : List (List Bool) := rows0.filter (fits σ)
/-- where an index splits, the part is one of an index more -/
theorem split_part {rows0 : List (List Bool)} {σ : List (Option Bool)} {i : Nat} (hi : i < σ.length) (h : split i (partOf rows0 σ) = true) : σ[i]? = some none ∧ halfF i (partOf rows0 σ) = partOf rows0 (σ.set i (some false)) ∧ halfT i (partOf rows0 σ) = partOf rows0 (σ.set i (some true)) := by
  obtain ⟨z1, z2, _, _⟩ := split_lt h
  have hn : σ[i]? = some none := by
    rw [List.getElem?_eq_getElem hi]
    cases e : σ[i] with
    | none => rfl
    | some b =>
      exfalso
      have e2 : σ[i]? = some (some b) := by rw [List.getElem?_eq_getElem hi, e]
      have all : ∀ l ∈ partOf rows0 σ, l.getD i false = b := fun l hl => fits_iff.mp (List.mem_filter.mp hl).2 i b e2
      cases b with
      | true =>
        obtain ⟨l, hl⟩ := List.exists_mem_of_length_pos z1
        have q := List.mem_filter.mp hl
        rw [all l q.1] at q
        simp at q
      | false =>
        obtain ⟨l, hl⟩ := List.exists_mem_of_length_pos z2
        have q := List.mem_filter.mp hl
        rw [all l q.1] at q
        simp at q
  refine ⟨hn, ?_, ?_⟩
  · unfold halfF partOf
    rw [List.filter_filter]
    refine List.filter_congr fun l _ => ?_
    rw [fits_set hn]
    cases l.getD i false <;> cases fits σ l <;> rfl
  · unfold halfT partOf
    rw [List.filter_filter]
    refine List.filter_congr fun l _ => ?_
    rw [fits_set hn]
    cases l.getD i false <;> cases fits σ l <;> rfl
theorem count_set {σ : List (Option Bool)} {i : Nat} {b : Bool} (hi : σ[i]? = some none) : (σ.set i (some b)).count none + 1 = σ.count none := by
  induction σ generalizing i with
  | nil => simp at hi
  | cons a σ ih =>
    cases i with
    | zero =>
      simp at hi
      subst hi
      simp
    | succ i =>
      have q := ih (i := i) (by simpa using hi)
      rw [List.set_cons_succ, List.count_cons, List.count_cons]
      omega
/-- two rows at least: some index splits -/
theorem splits {rows : List (List Bool)} {n : Nat} (h2 : 2 ≤ rows.length) (nd : rows.Nodup) (hl : ∀ l ∈ rows, l.length = n) : ∃ i, i < n ∧ split i rows = true := by
  match rows, h2 with
  | a :: b :: r, _ =>
    have hab : a ≠ b := fun e => by
      rw [List.nodup_cons] at nd
      exact nd.1 (by rw [e]; exact List.mem_cons_self ..)
    have ha := hl a (List.mem_cons_self ..)
    have hb := hl b (List.mem_cons_of_mem _ (List.mem_cons_self ..))
    have ex : ∃ i, i < n ∧ a.getD i false ≠ b.getD i false := by
      refine Classical.byContradiction fun no => hab ?_
      refine List.ext_getElem (ha.trans hb.symm) fun i h1 h2 => ?_
      refine Classical.byContradiction fun ne => no ⟨i, by omega, ?_⟩
      simp only [List.getD, List.getElem?_eq_getElem h1, List.getElem?_eq_getElem h2, Option.getD_some]
      exact ne
    obtain ⟨i, hi, ne⟩ := ex
    refine ⟨i, hi, ?_⟩
    have sp : ∀ x y : List Bool, x ∈ a :: b :: r → y ∈ a :: b :: r → x.getD i false = false → y.getD i false = true → split i (a :: b :: r) = true := fun x y hx hy ex ey => by
      have h1 : x ∈ halfF i (a :: b :: r) := List.mem_filter.mpr ⟨hx, by rw [ex]; rfl⟩
      have h2 : y ∈ halfT i (a :: b :: r) := List.mem_filter.mpr ⟨hy, ey⟩
      have n1 := List.ne_nil_of_mem h1
      have n2 := List.ne_nil_of_mem h2
      unfold split
      rw [Bool.and_eq_true, Bool.not_eq_true', Bool.not_eq_true', List.isEmpty_eq_false_iff, List.isEmpty_eq_false_iff]
      exact ⟨n1, n2⟩
    cases ea : a.getD i false <;> cases eb : b.getD i false
    · exact absurd (ea.trans eb.symm) ne
    · exact sp a b (by simp) (by simp) ea eb
    · exact sp b a (by simp) (by simp) eb ea
    · exact absurd (ea.trans eb.symm) ne
def allS : Nat → List (List (Option Bool))
  | 0 => [[]]
  | n + 1 => (allS n).flatMap fun s => [none :: s, some false :: s, some true :: s]
theorem mem_allS : ∀ {n : Nat} {σ : List (Option Bool)}, σ.length = n → σ ∈ allS n
  | 0, σ, h => by
    rw [List.length_eq_zero_iff.mp h]
    exact List.mem_singleton.mpr rfl
  | n + 1, [], h => by cases h
  | n + 1, a :: σ, h => by
    refine List.mem_flatMap.mpr ⟨σ, mem_allS (by simpa using h), ?_⟩
    rcases a with _ | b
    · simp
    · cases b <;> simp
theorem allS_len : ∀ n, (allS n).length = 3 ^ n
  | 0 => rfl
  | n + 1 => by
    have h : ∀ l : List (List (Option Bool)), (l.flatMap fun s => [none :: s, some false :: s, some true :: s]).length = 3 * l.length := fun l => by
      induction l with
      | nil => rfl
      | cons a l ih => rw [List.flatMap_cons, List.length_append, ih, List.length_cons]; simp; omega
    rw [allS, h, allS_len n, Nat.pow_succ]
    omega
theorem nodup_sub {α : Type} [DecidableEq α] : ∀ {l m : List α}, l.Nodup → (∀ x ∈ l, x ∈ m) → l.length ≤ m.length
  | [], _, _, _ => Nat.zero_le _
  | a :: l, m, nd, h => by
    rw [List.nodup_cons] at nd
    have ha := h a (List.mem_cons_self ..)
    have q := nodup_sub (m := m.erase a) nd.2 fun x hx => by
      have ne : x ≠ a := fun e => nd.1 (e ▸ hx)
      exact (List.mem_erase_of_ne ne).mpr (h x (List.mem_cons_of_mem _ hx))
    rw [List.length_erase_of_mem ha] at q
    have := List.length_pos_of_mem ha
    rw [List.length_cons]
    omega
end K49

namespace K49
def HalfFits (p : Nat) (rows : List (List Int × Bool)) : Prop := ∃ (u : Nat → Int) (a b : Int), 0 < a + b ∧ ∀ d ∈ rows, (d.2 = true → (sm p fun k => u k * d.1.getD k 0) + a ≤ 0) ∧ (d.2 = false → b ≤ sm p fun k => u k * d.1.getD k 0)
def curve (p : Nat) (t : Int) : List Int := [t, t * t, t * t * t].take p
def ins (x : Int × Bool) : List (Int × Bool) → List (Int × Bool)
  | [] => [x]
  | y :: r => if x.1 ≤ y.1 then x :: y :: r else y :: ins x r
def isort : List (Int × Bool) → List (Int × Bool)
  | [] => []
  | x :: r => ins x (isort r)
def chg : List (Int × Bool) → Nat
  | [] => 0
  | [_] => 0
  | x :: y :: r => (if x.2 = y.2 then 0 else 1) + chg (y :: r)
/-- strictly ascending -/
def Asc : List (Int × Bool) → Prop
  | [] => True
  | [_] => True
  | x :: y :: r => x.1 < y.1 ∧ Asc (y :: r)
theorem Asc.tail {x : Int × Bool} {r : List (Int × Bool)} (h : Asc (x :: r)) : Asc r := by
  cases r with
  | nil => trivial
  | cons y r => exact h.2
theorem Asc.head {x : Int × Bool} {r : List (Int × Bool)} (h : Asc (x :: r)) : ∀ y ∈ r, x.1 < y.1 := by
  induction r generalizing x with
  | nil => exact fun y hy => nomatch hy
  | cons z r ih =>
    intro y hy
    rcases List.mem_cons.mp hy with e | e
    · rw [e]; exact h.1
    · have := ih h.2 y e
      have := h.1
      omega
theorem mem_ins {x y : Int × Bool} : ∀ {l : List (Int × Bool)}, y ∈ ins x l ↔ y = x ∨ y ∈ l
  | [] => by simp [ins]
  | z :: r => by
    unfold ins
    split
    · simp
    · rw [List.mem_cons, mem_ins, List.mem_cons]
      constructor
      · rintro (h | h | h)
        · exact .inr (.inl h)
        · exact .inl h
        · exact .inr (.inr h)
      · rintro (h | h | h)
        · exact .inr (.inl h)
        · exact .inl h
        · exact .inr (.inr h)
theorem mem_isort {y : Int × Bool} : ∀ {l : List (Int × Bool)}, y ∈ isort l ↔ y ∈ l
  | [] => Iff.rfl
  | x :: r => by rw [isort, mem_ins, mem_isort, List.mem_cons]
theorem asc_ins {x : Int × Bool} : ∀ {l : List (Int × Bool)}, Asc l → (∀ y ∈ l, x.1 ≠ y.1) → Asc (ins x l)
  | [], _, _ => trivial
  | z :: r, h, n => by
    unfold ins
    have nz := n z (List.mem_cons_self ..)
    split
    · exact ⟨by omega, h⟩
    · have ih := asc_ins (x := x) h.tail fun y hy => n y (List.mem_cons_of_mem _ hy)
      cases r with
      | nil => exact ⟨by omega, trivial⟩
      | cons y r =>
        have hy := h.1
        unfold ins at ih ⊢
        split
        · rename_i q
          rw [if_pos q] at ih
          exact ⟨by omega, ih⟩
        · rename_i q
          rw [if_neg q] at ih
          exact ⟨hy, ih⟩
/-- no two with the same first -/
def Apart : List (Int × Bool) → Prop
  | [] => True
  | x :: r => (∀ y ∈ r, x.1 ≠ y.1) ∧ Apart r
theorem asc_isort : ∀ {l : List (Int × Bool)}, Apart l → Asc (isort l)
  | [], _ => trivial
  | x :: r, h => asc_ins (asc_isort h.2) fun y hy => h.1 y (mem_isort.mp hy)
theorem apart_zip : ∀ {ts : List Int} {ls : List Bool}, ts.Nodup → Apart (ts.zip ls)
  | [], _, _ => trivial
  | _ :: _, [], _ => trivial
  | t :: ts, b :: ls, h => by
    rw [List.nodup_cons] at h
    refine ⟨fun y hy e => h.1 ?_, apart_zip h.2⟩
    have := (List.of_mem_zip (show (y.1, y.2) ∈ _ from hy)).1
    rw [← e] at this
    exact this
def val (p : Nat) (u : Nat → Int) (t : Int) : Int := sm p fun k => u k * (curve p t).getD k 0
theorem val1 (u : Nat → Int) (t : Int) : val 1 u t = u 0 * t := by simp [val, sm, curve, List.getD]
theorem val2 (u : Nat → Int) (t : Int) : val 2 u t = u 0 * t + u 1 * (t * t) := by simp [val, sm, curve, List.getD]
theorem val3 (u : Nat → Int) (t : Int) : val 3 u t = u 0 * t + u 1 * (t * t) + u 2 * (t * t * t) := by simp [val, sm, curve, List.getD]
def HF (p : Nat) (rows : List (Int × Bool)) : Prop := ∃ (u : Nat → Int) (a b : Int), 0 < a + b ∧ ∀ d ∈ rows, (d.2 = true → val p u d.1 + a ≤ 0) ∧ (d.2 = false → b ≤ val p u d.1)
theorem hf_iff {p : Nat} {ts : List Int} {ls : List Bool} : HalfFits p ((ts.map (curve p)).zip ls) ↔ HF p (ts.zip ls) := by
  have e : (ts.map (curve p)).zip ls = (ts.zip ls).map fun d => (curve p d.1, d.2) := by
    rw [List.zip_map_left]
    rfl
  rw [e]
  constructor
  · rintro ⟨u, a, b, h, q⟩
    exact ⟨u, a, b, h, fun d hd => q (curve p d.1, d.2) (List.mem_map.mpr ⟨d, hd, rfl⟩)⟩
  · rintro ⟨u, a, b, h, q⟩
    refine ⟨u, a, b, h, fun d hd => ?_⟩
    obtain ⟨d', hd', rfl⟩ := List.mem_map.mp hd
    exact q d' hd'
theorem hf_isort {p : Nat} {l : List (Int × Bool)} : HF p l ↔ HF p (isort l) := by
  constructor
  · rintro ⟨u, a, b, h, q⟩
    exact ⟨u, a, b, h, fun d hd => q d (mem_isort.mp hd)⟩
  · rintro ⟨u, a, b, h, q⟩
    exact ⟨u, a, b, h, fun d hd => q d (mem_isort.mpr hd)⟩
def ev (R : List Int) (t : Int) : Int := R.foldr (fun r acc => (2 * t - r) * acc) 1
theorem ev_cons (r : Int) (R : List Int) (t : Int) : ev (r :: R) t = (2 * t - r) * ev R t := rfl
def sg (b : Bool) : Int := if b then 1 else -1
def pw (n : Nat) : Int := if n % 2 = 0 then 1 else -1
theorem pw_succ (n : Nat) : pw (n + 1) = - pw n := by unfold pw; split <;> split <;> omega
theorem ev_left : ∀ (R : List Int) (t : Int), (∀ r ∈ R, 2 * t < r) → 1 ≤ pw R.length * ev R t
  | [], t, _ => by simp [ev, pw]
  | r :: R, t, h => by
    have h1 := h r (List.mem_cons_self ..)
    have ih := ev_left R t fun r hr => h r (List.mem_cons_of_mem _ hr)
    rw [ev_cons, List.length_cons, pw_succ]
    have e : -pw R.length * ((2 * t - r) * ev R t) = (r - 2 * t) * (pw R.length * ev R t) := by grind
    rw [e]
    have := Int.mul_le_mul (show (1 : Int) ≤ r - 2 * t by omega) ih (by omega) (by omega)
    omega
theorem roots : ∀ (x : Int × Bool) (l : List (Int × Bool)), Asc (x :: l) → ∃ R : List Int, R.length = chg (x :: l) ∧ (∀ r ∈ R, 2 * x.1 < r) ∧ ∀ d ∈ x :: l, 1 ≤ sg d.2 * sg x.2 * pw R.length * ev R d.1
  | x, [], _ => ⟨[], rfl, (fun _ h => nomatch h), fun d hd => by
    rw [List.mem_singleton.mp hd]
    cases hx : x.2 <;> simp [sg, pw, ev]⟩
  | x, y :: l, h => by
    obtain ⟨R, h1, h2, h3⟩ := roots y l h.2
    by_cases e : x.2 = y.2
    · refine ⟨R, by rw [chg, if_pos e, h1]; omega, fun r hr => by have := h2 r hr; have := h.1; omega, fun d hd => ?_⟩
      rcases List.mem_cons.mp hd with q | q
      · rw [q]
        have z := ev_left R x.1 fun r hr => by have := h2 r hr; have := h.1; omega
        have s : sg x.2 * sg x.2 = 1 := by cases x.2 <;> decide
        rw [s, Int.one_mul]
        exact z
      · rw [e]
        exact h3 d q
    · refine ⟨(2 * y.1 - 1) :: R, by rw [chg, if_neg e, List.length_cons, h1]; omega, fun r hr => ?_, fun d hd => ?_⟩
      · rcases List.mem_cons.mp hr with q | q
        · have := h.1; omega
        · have := h2 r q; have := h.1; omega
      · rw [List.length_cons, pw_succ]
        rcases List.mem_cons.mp hd with q | q
        · rw [q]
          have z := ev_left ((2 * y.1 - 1) :: R) x.1 fun r hr => by
            rcases List.mem_cons.mp hr with q | q
            · have := h.1; omega
            · have := h2 r q; have := h.1; omega
          rw [List.length_cons, pw_succ] at z
          have s : sg x.2 * sg x.2 = 1 := by cases x.2 <;> decide
          rw [s, Int.one_mul]
          exact z
        · have z := h3 d q
          have s : sg x.2 = - sg y.2 := by
            cases hx : x.2 <;> cases hy : y.2 <;> first | decide | exact absurd (hx.trans hy.symm) e
          have hd1 : y.1 ≤ d.1 := by
            rcases List.mem_cons.mp q with w | w
            · rw [w]; exact Int.le_refl _
            · exact Int.le_of_lt (h.2.head d w)
          rw [s, ev_cons]
          have e2 : sg d.2 * -sg y.2 * -pw R.length * ((2 * d.1 - (2 * y.1 - 1)) * ev R d.1) = (2 * d.1 - (2 * y.1 - 1)) * (sg d.2 * sg y.2 * pw R.length * ev R d.1) := by grind
          rw [e2]
          have := Int.mul_le_mul (show (1 : Int) ≤ 2 * d.1 - (2 * y.1 - 1) by omega) z (by omega) (by omega)
          omega
/-- a polynomial of so many roots is a value -/
theorem ev_val {p : Nat} (hp : 1 ≤ p) (hp3 : p ≤ 3) (c : Int) (R : List Int) (h : R.length ≤ p) : ∃ (u : Nat → Int) (a : Int), ∀ t, val p u t + a = c * ev R t := by
  have h3 : ∀ (x y z a : Int), ∃ (u : Nat → Int), u 0 = x ∧ u 1 = y ∧ u 2 = z := fun x y z a => ⟨fun k => if k = 0 then x else if k = 1 then y else z, rfl, rfl, rfl⟩
  match R, h with
  | [], _ =>
    obtain ⟨u, u0, u1, u2⟩ := h3 0 0 0 0
    refine ⟨u, c, fun t => ?_⟩
    have : p = 1 ∨ p = 2 ∨ p = 3 := by omega
    rcases this with rfl | rfl | rfl
    · rw [val1, u0]; simp [ev]
    · rw [val2, u0, u1]; simp [ev]
    · rw [val3, u0, u1, u2]; simp [ev]
  | [r], _ =>
    obtain ⟨u, u0, u1, u2⟩ := h3 (2 * c) 0 0 0
    refine ⟨u, -(c * r), fun t => ?_⟩
    have : p = 1 ∨ p = 2 ∨ p = 3 := by omega
    rcases this with rfl | rfl | rfl
    · rw [val1, u0]; simp [ev]; grind
    · rw [val2, u0, u1]; simp [ev]; grind
    · rw [val3, u0, u1, u2]; simp [ev]; grind
  | [r, s], h =>
    obtain ⟨u, u0, u1, u2⟩ := h3 (-(2 * c * (r + s))) (4 * c) 0 0
    refine ⟨u, c * r * s, fun t => ?_⟩
    have : p = 2 ∨ p = 3 := by simp at h; omega
    rcases this with rfl | rfl
    · rw [val2, u0, u1]; simp [ev]; grind
    · rw [val3, u0, u1, u2]; simp [ev]; grind
  | [r, s, q], h =>
    obtain ⟨u, u0, u1, u2⟩ := h3 (2 * c * (r * s + r * q + s * q)) (-(4 * c * (r + s + q))) (8 * c) 0
    refine ⟨u, -(c * r * s * q), fun t => ?_⟩
    have : p = 3 := by simp at h; omega
    subst this
    rw [val3, u0, u1, u2]; simp [ev]; grind
  | _ :: _ :: _ :: _ :: _, h => simp at h; omega
theorem few_fits {p : Nat} (hp : 1 ≤ p) (hp3 : p ≤ 3) {l : List (Int × Bool)} (hA : Asc l) (h : chg l ≤ p) : HF p l := by
  cases l with
  | nil => exact ⟨fun _ => 0, 1, 0, by decide, fun d hd => nomatch hd⟩
  | cons x l =>
    obtain ⟨R, h1, h2, h3⟩ := roots x l hA
    obtain ⟨u, a, hu⟩ := ev_val hp hp3 (-(sg x.2 * pw R.length)) R (by omega)
    refine ⟨u, a + 1, -a + 1, by omega, fun d hd => ⟨fun ht => ?_, fun hf => ?_⟩⟩
    · have z := h3 d hd
      have e := hu d.1
      rw [ht] at z
      have s : sg true * sg x.2 * pw R.length * ev R d.1 = - (-(sg x.2 * pw R.length) * ev R d.1) := by simp only [show sg true = 1 from rfl]; grind
      rw [s, ← e] at z
      omega
    · have z := h3 d hd
      have e := hu d.1
      rw [hf] at z
      have s : sg false * sg x.2 * pw R.length * ev R d.1 = (-(sg x.2 * pw R.length) * ev R d.1) := by simp only [show sg false = -1 from rfl]; grind
      rw [s, ← e] at z
      omega
def alt : List (Int × Bool) → List (Int × Bool)
  | [] => []
  | [x] => [x]
  | x :: y :: r => if x.2 = y.2 then alt (y :: r) else x :: alt (y :: r)
theorem alt_ne (x : Int × Bool) (r : List (Int × Bool)) : ∃ z s, alt (x :: r) = z :: s ∧ z.2 = x.2 := by
  induction r generalizing x with
  | nil => exact ⟨x, [], rfl, rfl⟩
  | cons y r ih =>
    unfold alt
    split
    · rename_i e
      obtain ⟨z, s, h1, h2⟩ := ih y
      exact ⟨z, s, h1, by rw [h2, e]⟩
    · exact ⟨x, _, rfl, rfl⟩
theorem alt_len : ∀ (x : Int × Bool) (r : List (Int × Bool)), (alt (x :: r)).length = chg (x :: r) + 1
  | x, [] => rfl
  | x, y :: r => by
    unfold alt chg
    split
    · rw [alt_len y r]; omega
    · rw [List.length_cons, alt_len y r]; omega
theorem alt_mem : ∀ (l : List (Int × Bool)), ∀ d ∈ alt l, d ∈ l
  | [] => fun d h => h
  | [x] => fun d h => h
  | x :: y :: r => fun d h => by
    unfold alt at h
    split at h
    · exact List.mem_cons_of_mem _ (alt_mem _ d h)
    · rcases List.mem_cons.mp h with e | e
      · rw [e]; exact List.mem_cons_self ..
      · exact List.mem_cons_of_mem _ (alt_mem _ d e)
/-- ascending, each label another one than that ahead -/
def AA : List (Int × Bool) → Prop
  | [] => True
  | [_] => True
  | x :: y :: r => x.1 < y.1 ∧ y.2 = !x.2 ∧ AA (y :: r)
theorem alt_aa : ∀ (l : List (Int × Bool)), Asc l → AA (alt l)
  | [], _ => trivial
  | [x], _ => trivial
  | x :: y :: r, h => by
    unfold alt
    have ih := alt_aa (y :: r) h.2
    split
    · exact ih
    · rename_i ne
      obtain ⟨z, s, e1, e2⟩ := alt_ne y r
      rw [e1] at ih ⊢
      refine ⟨?_, ?_, ih⟩
      · have : z ∈ y :: r := alt_mem _ z (by rw [e1]; exact List.mem_cons_self ..)
        exact h.head z this
      · rw [e2]
        cases hx : x.2 <;> cases hy : y.2 <;> first | rfl | exact absurd (hx.trans hy.symm) ne
theorem pos_of {x y : Int} (h : 0 < x * y) (hy : 0 < y) : 0 < x := by
  rcases Int.lt_or_le 0 x with q | q
  · exact q
  · have := Int.mul_le_mul_of_nonneg_right q (Int.le_of_lt hy)
    omega
theorem neg_of {x y : Int} (h : x * y < 0) (hy : 0 < y) : x < 0 := by
  rcases Int.lt_or_le x 0 with q | q
  · exact q
  · have := Int.mul_nonneg q (Int.le_of_lt hy)
    omega
theorem zig1 {u : Nat → Int} {a b c : Int} (h1 : a < b) (h2 : b < c) (z1 : val 1 u a < val 1 u b) (z2 : val 1 u c < val 1 u b) : False := by
  rw [val1, val1] at z1 z2
  have p1 : 0 < u 0 := pos_of (y := b - a) (by rw [Int.mul_sub]; omega) (by omega)
  have p2 : u 0 < 0 := neg_of (y := c - b) (by rw [Int.mul_sub]; omega) (by omega)
  omega
theorem zig2 {u : Nat → Int} {a b c d : Int} (h1 : a < b) (h2 : b < c) (h3 : c < d) (z1 : val 2 u a < val 2 u b) (z2 : val 2 u c < val 2 u b) (z3 : val 2 u c < val 2 u d) : False := by
  rw [val2, val2] at z1 z2 z3
  have g1 : 0 < u 0 + u 1 * (a + b) := pos_of (y := b - a) (by rw [show (u 0 + u 1 * (a + b)) * (b - a) = (u 0 * b + u 1 * (b * b)) - (u 0 * a + u 1 * (a * a)) by grind]; omega) (by omega)
  have g2 : u 0 + u 1 * (b + c) < 0 := neg_of (y := c - b) (by rw [show (u 0 + u 1 * (b + c)) * (c - b) = (u 0 * c + u 1 * (c * c)) - (u 0 * b + u 1 * (b * b)) by grind]; omega) (by omega)
  have g3 : 0 < u 0 + u 1 * (c + d) := pos_of (y := d - c) (by rw [show (u 0 + u 1 * (c + d)) * (d - c) = (u 0 * d + u 1 * (d * d)) - (u 0 * c + u 1 * (c * c)) by grind]; omega) (by omega)
  have k1 : u 1 < 0 := neg_of (y := c - a) (by rw [show u 1 * (c - a) = (u 0 + u 1 * (b + c)) - (u 0 + u 1 * (a + b)) by grind]; omega) (by omega)
  have k2 : 0 < u 1 := pos_of (y := d - b) (by rw [show u 1 * (d - b) = (u 0 + u 1 * (c + d)) - (u 0 + u 1 * (b + c)) by grind]; omega) (by omega)
  omega
theorem dd3 (u : Nat → Int) (a b : Int) : (u 0 + u 1 * (a + b) + u 2 * (a * a + a * b + b * b)) * (b - a) = val 3 u b - val 3 u a := by
  rw [val3, val3]
  grind
theorem dd3' (u : Nat → Int) (a b c : Int) : (u 1 + u 2 * (a + b + c)) * (c - a) = (u 0 + u 1 * (b + c) + u 2 * (b * b + b * c + c * c)) - (u 0 + u 1 * (a + b) + u 2 * (a * a + a * b + b * b)) := by
  grind
theorem zig3 {u : Nat → Int} {a b c d e : Int} (h1 : a < b) (h2 : b < c) (h3 : c < d) (h4 : d < e) (z1 : val 3 u a < val 3 u b) (z2 : val 3 u c < val 3 u b) (z3 : val 3 u c < val 3 u d) (z4 : val 3 u e < val 3 u d) : False := by
  have g1 : 0 < u 0 + u 1 * (a + b) + u 2 * (a * a + a * b + b * b) := pos_of (y := b - a) (by rw [dd3]; omega) (by omega)
  have g2 : u 0 + u 1 * (b + c) + u 2 * (b * b + b * c + c * c) < 0 := neg_of (y := c - b) (by rw [dd3]; omega) (by omega)
  have g3 : 0 < u 0 + u 1 * (c + d) + u 2 * (c * c + c * d + d * d) := pos_of (y := d - c) (by rw [dd3]; omega) (by omega)
  have g4 : u 0 + u 1 * (d + e) + u 2 * (d * d + d * e + e * e) < 0 := neg_of (y := e - d) (by rw [dd3]; omega) (by omega)
  have k1 : u 1 + u 2 * (a + b + c) < 0 := neg_of (y := c - a) (by rw [dd3']; omega) (by omega)
  have k2 : 0 < u 1 + u 2 * (b + c + d) := pos_of (y := d - b) (by rw [dd3']; omega) (by omega)
  have k3 : u 1 + u 2 * (c + d + e) < 0 := neg_of (y := e - c) (by rw [dd3']; omega) (by omega)
  have m1 : 0 < u 2 := pos_of (y := d - a) (by rw [show u 2 * (d - a) = (u 1 + u 2 * (b + c + d)) - (u 1 + u 2 * (a + b + c)) by grind]; omega) (by omega)
  have m2 : u 2 < 0 := neg_of (y := e - b) (by rw [show u 2 * (e - b) = (u 1 + u 2 * (c + d + e)) - (u 1 + u 2 * (b + c + d)) by grind]; omega) (by omega)
  omega
theorem val_neg (p : Nat) (u : Nat → Int) (t : Int) : val p (fun k => - u k) t = - val p u t := by
  unfold val
  rw [← sm_neg]
  exact sm_congr fun k _ => by grind
theorem many_not {p : Nat} (hp : 1 ≤ p) (hp3 : p ≤ 3) {l : List (Int × Bool)} (hA : AA l) (hl : p + 2 ≤ l.length) : ¬ HF p l := by
  rintro ⟨u, a, b, hab, q⟩
  -- a label's value against that of the other label
  have cmp : ∀ d ∈ l, ∀ e ∈ l, d.2 = true → e.2 = false → val p u d.1 < val p u e.1 := fun d hd e he h1 h2 => by
    have := (q d hd).1 h1
    have := (q e he).2 h2
    omega
  -- up to the sign of u the first step goes up
  have key : ∀ (u : Nat → Int) (s : Bool), (∀ d ∈ l, ∀ e ∈ l, d.2 = s → e.2 = (!s) → val p u d.1 < val p u e.1) → ∀ x r, l = x :: r → x.2 = s → False := by
    intro u s cmp x r e hx
    subst e
    match r, hl, hA, cmp with
    | [], hl, _, _ => simp at hl
    | [_], hl, _, _ => simp at hl; omega
    | y :: z :: r, hl, ⟨a1, b1, a2, b2, hA⟩, cmp =>
      have hy : y.2 = !s := by rw [b1, hx]
      have hz : z.2 = s := by rw [b2, hy, Bool.not_not]
      have c1 := cmp x (by simp) y (by simp) hx hy
      have c2 := cmp z (by simp) y (by simp) hz hy
      have : p = 1 ∨ 2 ≤ p := by omega
      rcases this with rfl | h2
      · exact zig1 a1 a2 c1 c2
      · match r, hl, hA, cmp with
        | [], hl, _, _ => simp at hl; omega
        | v :: r, hl, ⟨a3, b3, hA⟩, cmp =>
          have hv : v.2 = !s := by rw [b3, hz]
          have c3 := cmp z (by simp) v (by simp) hz hv
          have : p = 2 ∨ p = 3 := by omega
          rcases this with rfl | rfl
          · exact zig2 a1 a2 a3 c1 c2 c3
          · match r, hl, hA, cmp with
            | [], hl, _, _ => simp at hl
            | w :: r, hl, ⟨a4, b4, _⟩, cmp =>
              have hw : w.2 = s := by rw [b4, hv, Bool.not_not]
              have c4 := cmp w (by simp) v (by simp) hw hv
              exact zig3 a1 a2 a3 a4 c1 c2 c3 c4
  match l, hl with
  | x :: r, _ =>
    cases hx : x.2 with
    | true => exact key u true (fun d hd e he h1 h2 => cmp d hd e he h1 h2) x r rfl hx
    | false =>
      refine key (fun k => - u k) false (fun d hd e he h1 h2 => ?_) x r rfl hx
      rw [val_neg, val_neg]
      have := cmp e he d hd h2 h1
      omega
theorem hf_chg {p : Nat} (hp : 1 ≤ p) (hp3 : p ≤ 3) {l : List (Int × Bool)} (hA : Asc l) : HF p l ↔ chg l ≤ p := by
  refine ⟨fun h => ?_, few_fits hp hp3 hA⟩
  refine Classical.byContradiction fun n => ?_
  cases l with
  | nil => exact n (Nat.zero_le _)
  | cons x r =>
    refine many_not hp hp3 (alt_aa _ hA) (by rw [alt_len]; omega) ?_
    obtain ⟨u, a, b, h1, h2⟩ := h
    exact ⟨u, a, b, h1, fun d hd => h2 d (alt_mem _ d hd)⟩
theorem half_chg {p : Nat} (hp : 1 ≤ p) (hp3 : p ≤ 3) {ts : List Int} (nd : ts.Nodup) (ls : List Bool) : HalfFits p ((ts.map (curve p)).zip ls) ↔ chg (isort (ts.zip ls)) ≤ p := by
  rw [hf_iff, hf_isort, hf_chg hp hp3 (asc_isort (apart_zip nd))]
end K49

namespace K49
def yesCol (p : List Int) : List Int := p ++ [1, 0]
def noCol (p : List Int) : List Int := (p.map fun x => -x) ++ [0, 1]
def halfB (k : Nat) : List Int := List.replicate k 0 ++ [1, 1]
def halfCols (ys ns : List (List Int)) : List (List Int) := ys.map yesCol ++ ns.map noCol
theorem sm_two_more (k : Nat) (f : Nat → Int) : sm (k + 2) f = sm k f + f k + f (k + 1) := rfl
theorem sm_yes {k : Nat} {p : List Int} (hp : p.length = k) (y : Nat → Int) : (sm (k + 2) fun i => (yesCol p).getD i 0 * y i) = (sm k fun i => y i * p.getD i 0) + y k := by
  rw [sm_two_more]
  have e1 : (sm k fun i => (yesCol p).getD i 0 * y i) = sm k fun i => y i * p.getD i 0 := sm_congr fun i hi => by
    have : (yesCol p).getD i 0 = p.getD i 0 := by
      unfold yesCol
      simp [List.getD, List.getElem?_append, show i < p.length by omega]
    rw [this, Int.mul_comm]
  have e2 : (yesCol p).getD k 0 = 1 := by
    unfold yesCol
    simp [List.getD, List.getElem?_append, hp]
  have e3 : (yesCol p).getD (k + 1) 0 = 0 := by
    unfold yesCol
    simp [List.getD, List.getElem?_append, hp]
  rw [e1]
  simp only [e2, e3]
  omega
theorem sm_no {k : Nat} {p : List Int} (hp : p.length = k) (y : Nat → Int) : (sm (k + 2) fun i => (noCol p).getD i 0 * y i) = -(sm k fun i => y i * p.getD i 0) + y (k + 1) := by
  rw [sm_two_more]
  have e1 : (sm k fun i => (noCol p).getD i 0 * y i) = - sm k fun i => y i * p.getD i 0 := by
    rw [← sm_neg]
    refine sm_congr fun i hi => ?_
    have : (noCol p).getD i 0 = - p.getD i 0 := by
      unfold noCol
      simp [List.getD, List.getElem?_append, show i < p.length by omega]
    rw [this]
    grind
  have e2 : (noCol p).getD k 0 = 0 := by
    unfold noCol
    simp [List.getD, List.getElem?_append, hp]
  have e3 : (noCol p).getD (k + 1) 0 = 1 := by
    unfold noCol
    simp [List.getD, List.getElem?_append, hp]
  rw [e1]
  simp only [e2, e3]
  omega
theorem sm_b (k : Nat) (y : Nat → Int) : (sm (k + 2) fun i => (halfB k).getD i 0 * y i) = y k + y (k + 1) := by
  rw [sm_two_more]
  have e1 : (sm k fun i => (halfB k).getD i 0 * y i) = 0 := sm_zero fun i hi => by
    have : (halfB k).getD i 0 = 0 := by
      unfold halfB
      simp [List.getD, List.getElem?_append, List.getElem?_replicate, hi]
    rw [this, Int.zero_mul]
  have e2 : (halfB k).getD k 0 = 1 := by
    unfold halfB
    simp [List.getD, List.getElem?_append]
  have e3 : (halfB k).getD (k + 1) 0 = 1 := by
    unfold halfB
    simp [List.getD, List.getElem?_append]
  rw [e1]
  simp only [e2, e3]
  omega
theorem halfB_len (k : Nat) : (halfB k).length = k + 2 := by simp [halfB]
theorem halfB_nn (k i : Nat) : 0 ≤ (halfB k).getD i 0 := by
  unfold halfB
  rw [List.getD, List.getElem?_append]
  split
  · rw [List.getElem?_replicate]
    split <;> decide
  · match i - (List.replicate k (0 : Int)).length with
    | 0 => decide
    | 1 => decide
    | n + 2 => simp
/-- what fits, over the points alone -/
def HP (k : Nat) (ys ns : List (List Int)) : Prop := ∃ (u : Nat → Int) (a b : Int), 0 < a + b ∧ (∀ p ∈ ys, (sm k fun i => u i * p.getD i 0) + a ≤ 0) ∧ ∀ p ∈ ns, b ≤ sm k fun i => u i * p.getD i 0
theorem half_none {k : Nat} {ys ns : List (List Int)} (hy : ∀ p ∈ ys, p.length = k) (hn : ∀ p ∈ ns, p.length = k) (y : Nat → Int)
    (h1 : ∀ j, j < (halfCols ys ns).length → (sm (k + 2) fun i => ((halfCols ys ns).getD j []).getD i 0 * y i) ≤ 0) (h2 : 0 < sm (k + 2) fun i => (halfB k).getD i 0 * y i) : HP k ys ns := by
  have mem : ∀ c ∈ halfCols ys ns, (sm (k + 2) fun i => c.getD i 0 * y i) ≤ 0 := fun c hc => by
    obtain ⟨j, hj, rfl⟩ := List.mem_iff_getElem.mp hc
    have := h1 j hj
    rwa [show (halfCols ys ns).getD j [] = (halfCols ys ns)[j] by simp [List.getD, List.getElem?_eq_getElem hj]] at this
  rw [sm_b] at h2
  refine ⟨y, y k, y (k + 1), h2, fun p hp => ?_, fun p hp => ?_⟩
  · have := mem (yesCol p) (List.mem_append.mpr (.inl (List.mem_map.mpr ⟨p, hp, rfl⟩)))
    rwa [sm_yes (hy p hp)] at this
  · have := mem (noCol p) (List.mem_append.mpr (.inr (List.mem_map.mpr ⟨p, hp, rfl⟩)))
    rw [sm_no (hn p hp)] at this
    omega
theorem half_point {k : Nat} {ys ns : List (List Int)} (hy : ∀ p ∈ ys, p.length = k) (hn : ∀ p ∈ ns, p.length = k) {d : Int} (hd : 0 < d) (x : Nat → Int) (hx : ∀ j, 0 ≤ x j)
    (h : ∀ i, i < k + 2 → d * (halfB k).getD i 0 = sm (halfCols ys ns).length fun j => x j * ((halfCols ys ns).getD j []).getD i 0) : ¬ HP k ys ns := by
  rintro ⟨u, a, b, hab, q1, q2⟩
  obtain ⟨y, y0, y1, y2⟩ : ∃ y : Nat → Int, (∀ i, i < k → y i = u i) ∧ y k = a ∧ y (k + 1) = b := ⟨fun i => if i < k then u i else if i = k then a else b, fun i hi => by simp [hi], by simp, by show (if k + 1 < k then _ else if k + 1 = k then _ else _) = _; rw [if_neg (by omega), if_neg (by omega)]⟩
  have eu : ∀ p : List Int, (sm k fun i => y i * p.getD i 0) = sm k fun i => u i * p.getD i 0 := fun p => sm_congr fun i hi => by rw [y0 i hi]
  have mem : ∀ c ∈ halfCols ys ns, (sm (k + 2) fun i => c.getD i 0 * y i) ≤ 0 := fun c hc => by
    rcases List.mem_append.mp hc with hc | hc
    · obtain ⟨p, hp, rfl⟩ := List.mem_map.mp hc
      rw [sm_yes (hy p hp), eu, y1]
      exact q1 p hp
    · obtain ⟨p, hp, rfl⟩ := List.mem_map.mp hc
      rw [sm_no (hn p hp), eu, y2]
      have := q2 p hp
      omega
  have e1 : d * (a + b) = sm (k + 2) fun i => (d * (halfB k).getD i 0) * y i := by
    have e := sm_b k y
    rw [y1, y2] at e
    rw [← e, ← sm_mul]
    exact sm_congr fun i _ => by rw [Int.mul_assoc]
  have e2 : (sm (k + 2) fun i => (d * (halfB k).getD i 0) * y i) = sm (halfCols ys ns).length fun j => x j * sm (k + 2) fun i => ((halfCols ys ns).getD j []).getD i 0 * y i := by
    have : (sm (k + 2) fun i => (d * (halfB k).getD i 0) * y i) = sm (k + 2) fun i => sm (halfCols ys ns).length fun j => x j * (((halfCols ys ns).getD j []).getD i 0 * y i) := sm_congr fun i hi => by
      rw [h i hi, ← sm_mulr]
      exact sm_congr fun j _ => by rw [Int.mul_assoc]
    rw [this, sm_swap]
    exact sm_congr fun j _ => sm_mul _ _ _
  have e3 : (sm (halfCols ys ns).length fun j => x j * sm (k + 2) fun i => ((halfCols ys ns).getD j []).getD i 0 * y i) ≤ sm (halfCols ys ns).length fun _ => 0 := sm_le fun j hj => by
    have := mem ((halfCols ys ns).getD j []) (by rw [show (halfCols ys ns).getD j [] = (halfCols ys ns)[j] by simp [List.getD, List.getElem?_eq_getElem hj]]; exact List.getElem_mem hj)
    exact Int.mul_nonpos_of_nonneg_of_nonpos (hx j) this
  rw [sm_zero (fun _ _ => rfl)] at e3
  have := Int.mul_pos hd hab
  omega
theorem hp_rows {k : Nat} {rows : List (List Int × Bool)} : HalfFits k rows ↔ HP k ((rows.filter fun d => d.2 = true).map fun d => d.1) ((rows.filter fun d => d.2 = false).map fun d => d.1) := by
  constructor
  · rintro ⟨u, a, b, h, q⟩
    refine ⟨u, a, b, h, fun p hp => ?_, fun p hp => ?_⟩
    · obtain ⟨d, hd, rfl⟩ := List.mem_map.mp hp
      obtain ⟨h1, h2⟩ := List.mem_filter.mp hd
      exact (q d h1).1 (of_decide_eq_true h2)
    · obtain ⟨d, hd, rfl⟩ := List.mem_map.mp hp
      obtain ⟨h1, h2⟩ := List.mem_filter.mp hd
      exact (q d h1).2 (of_decide_eq_true h2)
  · rintro ⟨u, a, b, h, q1, q2⟩
    exact ⟨u, a, b, h, fun d hd => ⟨fun hb => q1 d.1 (List.mem_map.mpr ⟨d, List.mem_filter.mpr ⟨hd, decide_eq_true hb⟩, rfl⟩), fun hb => q2 d.1 (List.mem_map.mpr ⟨d, List.mem_filter.mpr ⟨hd, decide_eq_true hb⟩, rfl⟩)⟩⟩
end K49

namespace K49
open PySem PySem.Spec PyProof.Rows L2
open Evl (Ex)
/-- an answer that leaves all as it stands, new things beside it -/
def RV (v : V) (H : Hp) (Q : VK) : Prop := ∀ H', Ex H H' → Q v H'
theorem RV.here {v : V} {H : Hp} {Q : VK} (h : RV v H Q) : Q v H := h H (Ex.refl H)
/-- the tuples stay -/
def TEx (H H' : Hp) : Prop := ∀ a xs, H a = some (.tup xs) → H' a = some (.tup xs)
theorem Ex.tex {H H' : Hp} (e : Ex H H') : TEx H H' := fun a xs h => e a _ h
theorem TEx.refl (H : Hp) : TEx H H := fun _ _ h => h
theorem TEx.trans {H H1 H2 : Hp} (a : TEx H H1) (b : TEx H1 H2) : TEx H H2 := fun x xs h => b x xs (a x xs h)
theorem TEx.lst {H : Hp} {p : Addr} {xs : List V} (o : HO) (h : H p = some (.lst xs)) : TEx H (upd H p o) := fun a ys e => by
  rw [upd_ne (ne_of e h (by intro z; cases z))]
  exact e
theorem TEx.ins {H : Hp} {p C dx : Addr} {fs : List (Str × V)} (o : HO) (h : H p = some (.ins C dx fs)) : TEx H (upd H p o) := fun a ys e => by
  rw [upd_ne (ne_of e h (by intro z; cases z))]
  exact e
/-- without one address -/
def hid (D : Addr) (H : Hp) : Hp := fun b => if b = D then none else H b
theorem hid_ne {D : Addr} {H : Hp} {b : Addr} (h : b ≠ D) : hid D H b = H b := if_neg h
theorem hid_ex (D : Addr) (H : Hp) : Ex (hid D H) H := fun a o h => by
  unfold hid at h
  split at h
  · cases h
  · exact h
theorem hid_mono {D : Addr} {H H' : Hp} (e : Ex H H') : Ex (hid D H) (hid D H') := fun a o h => by
  unfold hid at h
  split at h
  · cases h
  · rename_i n
    rw [hid_ne n]
    exact e a o h
theorem hid_upd {D : Addr} {H : Hp} {o : HO} : hid D (upd H D o) = hid D H := by
  funext b
  unfold hid
  split
  · rfl
  · rename_i n
    exact upd_ne n
theorem hid_of_none {D : Addr} {H H' : Hp} (e : Ex H H') (h : H D = none) : Ex H (hid D H') := fun a o q => by
  rw [hid_ne (ne_of_none q h)]
  exact e a o q
theorem hid_tex {D : Addr} {H : Hp} {xs : List V} (h : H D = some (.lst xs)) : TEx H (hid D H) := fun a ys q => by
  rw [hid_ne (ne_of q h (by intro z; cases z))]
  exact q
section
variable {α β : Type}
/-- what a relation of values to data leans on: objects that stay | tuples alone -/
def Sst (R : Hp → V → β → Prop) : Prop := ∀ H H' v d, Ex H H' → R H v d → R H' v d
def Tst (R : Hp → V → β → Prop) : Prop := ∀ H H' v d, TEx H H' → R H v d → R H' v d
theorem Tst.sst {R : Hp → V → β → Prop} (h : Tst R) : Sst R := fun H H' v d e => h H H' v d (Ex.tex e)
/-- a list of such -/
abbrev All (R : Hp → V → β → Prop) (H : Hp) (xs : List V) (ds : List β) : Prop := Paired (R H) xs ds
theorem All.mono {R : Hp → V → β → Prop} (s : Sst R) {H H' : Hp} (e : Ex H H') {xs : List V} {ds : List β} (h : All R H xs ds) : All R H' xs ds := Paired.mapP h fun _ _ q => s H H' _ _ e q
theorem All.tmono {R : Hp → V → β → Prop} (s : Tst R) {H H' : Hp} (e : TEx H H') {xs : List V} {ds : List β} (h : All R H xs ds) : All R H' xs ds := Paired.mapP h fun _ _ q => s H H' _ _ e q
theorem paired_app {γ δ : Type} {F : γ → δ → Prop} : ∀ {l1 l2 : List γ} {m1 m2 : List δ}, Paired F l1 m1 → Paired F l2 m2 → Paired F (l1 ++ l2) (m1 ++ m2)
  | _, _, _, _, .nil, s => s
  | _, _, _, _, .cons r t, s => .cons r (paired_app t s)
theorem paired_at {γ δ : Type} {F : γ → δ → Prop} : ∀ {l : List γ} {m : List δ} {i : Nat} {d : δ}, Paired F l m → m[i]? = some d → ∃ x, l[i]? = some x ∧ F x d
  | _, _, _, _, .nil, e => by simp at e
  | _, _, 0, _, .cons r _, e => by simp at e; subst e; exact ⟨_, rfl, r⟩
  | _, _, i + 1, d, .cons _ t, e => by
    obtain ⟨x, h1, h2⟩ := paired_at (i := i) (d := d) t (by simpa using e)
    exact ⟨x, by simpa using h1, h2⟩
theorem paired_of {γ δ : Type} {F : γ → δ → Prop} {l : List γ} {m : List δ} {i : Nat} {x : γ} (h : Paired F l m) (e : l[i]? = some x) : ∃ d, m[i]? = some d ∧ F x d := paired_get h e
/-- a list of data stands at a -/
def Ls (R : Hp → V → β → Prop) (H : Hp) (a : Addr) (ds : List β) : Prop := ∃ xs, H a = some (.lst xs) ∧ All R H xs ds
theorem Ls.mono {R : Hp → V → β → Prop} (s : Sst R) {H H' : Hp} (e : Ex H H') {a : Addr} {ds : List β} (h : Ls R H a ds) : Ls R H' a ds := by
  obtain ⟨xs, h1, h2⟩ := h
  exact ⟨xs, e a _ h1, h2.mono s e⟩
/-- a new list of data is the answer -/
def RL (R : Hp → V → β → Prop) (ds : List β) (H : Hp) (Q : VK) : Prop := ∀ p H', H p = none → Ex H H' → Ls R H' p ds → Q (.ref p) H'
theorem take_succ_of {l : List α} {i : Nat} {d : α} (h : l[i]? = some d) : l.take (i + 1) = l.take i ++ [d] := by
  rw [List.take_succ, h]
  rfl
/-- a comprehension over data, its elements leaning on objects that stay -/
theorem lc_data2 {J : It} {G : Hp → Prop} {Y : Nat → Hp → V → Hp → Prop} {g : TG} {tt : TT} {te : TE} {vs : List Nat} {σ : L2.St} {H1 : Hp} {D : Addr} {Qd : Hp → Prop} (ds : List α) (keep : α → Bool) (R : Hp → V → β → Prop) (el : α → β)
    (wk : Walk J ds.length G Y) (s : Sst R) (hn : ds.length ≤ 40000) (hD : H1 D = none) (hG : ∀ H, Ex H1 H → G H) (hY : ∀ i x H H', Y i H x H' → Ex H H')
    (hs : ∀ i d x H H' ys, ds[i]? = some d → Ex H1 H → H D = some (.lst ys) → Y i H x H' → ∀ (Ky : V → Hp → Prop) (Kn : Hp → Prop), (keep d = true → ∀ y H4, Ex H' H4 → R (hid D H4) y (el d) → Ky y H4) → (keep d = false → ∀ H4, Ex H' H4 → Kn H4) →
      g x (wipe σ vs) H' fun σ2 H2 => wipe σ2 vs = wipe σ vs ∧ tt σ2 H2 fun b H3 => if b = true then te σ2 H3 Ky else Kn H3)
    (hd : ∀ H, Ex H1 H → Ls R H D ((ds.filter keep).map el) → Qd H) :
    ∃ W : Nat → Nat → Hp → Prop, (∃ m, W 0 m (upd H1 D (.lst []))) ∧ ∀ i m H, W i m H →
      (J.stop i H ∧ Qd H) ∨ (J.go i H ∧ ∃ Nx : Hp → Prop, (∀ H', Nx H' → ∃ m', m' < m ∧ W (i + 1) m' H') ∧ ∀ x H', J.yld i H x H' → g x (wipe σ vs) H' fun σ2 H2 => wipe σ2 vs = wipe σ vs ∧ tt σ2 H2 fun b H3 =>
        if b = true then te σ2 H3 fun y H4 => ∃ acc, H4 D = some (.lst acc) ∧ acc.length < sizeLine ∧ Nx (upd H4 D (.lst (acc ++ [y]))) else Nx H3) := by
  refine lc_it wk (fun i H => Ex H1 H ∧ ∃ xs, H D = some (.lst xs) ∧ All R (hid D H) xs (((ds.take i).filter keep).map el)) ⟨Ex.mut (Ex.refl H1) hD, [], upd_same, .nil⟩ (fun i H _ h => hG H h.1) (fun i x H H' hi h hy => ?_) (fun H h => ?_)
  · obtain ⟨e, xs, hx, ha⟩ := h
    obtain ⟨d, hdd⟩ : ∃ d, ds[i]? = some d := ⟨ds[i], List.getElem?_eq_getElem hi⟩
    have eY := hY i x H H' hy
    have et := take_succ_of hdd
    refine hs i d x H H' xs hdd e hx hy _ _ (fun hk y H4 e4 hr => ?_) (fun hk H4 e4 => ?_)
    · have ex : Ex H H4 := eY.trans e4
      have hl : xs.length ≤ i := by
        rw [ha.length, List.length_map]
        exact Nat.le_trans (List.length_filter_le _ _) (by rw [List.length_take]; omega)
      refine ⟨xs, ex D _ hx, Nat.lt_of_le_of_lt (show xs.length ≤ 40000 by omega) (by decide), Ex.mut (e.trans ex) hD, xs ++ [y], upd_same, ?_⟩
      rw [hid_upd, et, List.filter_append, List.map_append, List.filter_cons, if_pos hk]
      exact paired_app (ha.mono s (hid_mono ex)) (.cons hr .nil)
    · have ex : Ex H H4 := eY.trans e4
      refine ⟨e.trans ex, xs, ex D _ hx, ?_⟩
      rw [et, List.filter_append, List.map_append, List.filter_cons, if_neg (by rw [hk]; decide)]
      show All R (hid D H4) xs (_ ++ [])
      rw [List.append_nil]
      exact ha.mono s (hid_mono ex)
  · obtain ⟨e, xs, hx, ha⟩ := h
    rw [List.take_length] at ha
    exact hd H e ⟨xs, hx, ha.mono s (hid_ex D H)⟩
/-- .. leaning on tuples alone -/
theorem lc_data {J : It} {G : Hp → Prop} {Y : Nat → Hp → V → Hp → Prop} {g : TG} {tt : TT} {te : TE} {vs : List Nat} {σ : L2.St} {H1 : Hp} {D : Addr} {Qd : Hp → Prop} (ds : List α) (keep : α → Bool) (R : Hp → V → β → Prop) (el : α → β)
    (wk : Walk J ds.length G Y) (s : Tst R) (hn : ds.length ≤ 40000) (hD : H1 D = none) (hG : ∀ H, Ex H1 H → G H) (hY : ∀ i x H H', Y i H x H' → Ex H H')
    (hs : ∀ i d x H H', ds[i]? = some d → Ex H1 H → Y i H x H' → ∀ (Ky : V → Hp → Prop) (Kn : Hp → Prop), (keep d = true → ∀ y H4, Ex H' H4 → R H4 y (el d) → Ky y H4) → (keep d = false → ∀ H4, Ex H' H4 → Kn H4) →
      g x (wipe σ vs) H' fun σ2 H2 => wipe σ2 vs = wipe σ vs ∧ tt σ2 H2 fun b H3 => if b = true then te σ2 H3 Ky else Kn H3)
    (hd : ∀ H, Ex H1 H → Ls R H D ((ds.filter keep).map el) → Qd H) :
    ∃ W : Nat → Nat → Hp → Prop, (∃ m, W 0 m (upd H1 D (.lst []))) ∧ ∀ i m H, W i m H →
      (J.stop i H ∧ Qd H) ∨ (J.go i H ∧ ∃ Nx : Hp → Prop, (∀ H', Nx H' → ∃ m', m' < m ∧ W (i + 1) m' H') ∧ ∀ x H', J.yld i H x H' → g x (wipe σ vs) H' fun σ2 H2 => wipe σ2 vs = wipe σ vs ∧ tt σ2 H2 fun b H3 =>
        if b = true then te σ2 H3 fun y H4 => ∃ acc, H4 D = some (.lst acc) ∧ acc.length < sizeLine ∧ Nx (upd H4 D (.lst (acc ++ [y]))) else Nx H3) :=
  lc_data2 ds keep R el wk s.sst hn hD hG hY (fun i d x H H' ys h1 h2 h3 h4 Ky Kn k1 k2 => hs i d x H H' h1 h2 h4 Ky Kn (fun hk y H4 e4 hr => k1 hk y H4 e4 (s _ _ _ _ (hid_tex (e4 _ _ (hY i x H H' h4 _ _ h3))) hr)) k2) hd
theorem filter_all {l : List α} : l.filter (fun _ => true) = l := by simp
end
def IsI : Hp → V → Int → Prop := fun _ v i => v = .int i
def IsBl : Hp → V → Bool → Prop := fun _ v b => v = .bl b
theorem tst_I : Tst IsI := fun _ _ _ _ _ h => h
theorem tst_Bl : Tst IsBl := fun _ _ _ _ _ h => h
theorem all_I {H : Hp} : ∀ {xs : List V} {ns : List Int}, All IsI H xs ns → xs = ns.map V.int
  | _, _, .nil => rfl
  | _, _, .cons r t => by
    have e : _ = V.int _ := r
    rw [e, all_I t]
    rfl
theorem all_Bl {H : Hp} : ∀ {xs : List V} {bs : List Bool}, All IsBl H xs bs → xs = bs.map V.bl
  | _, _, .nil => rfl
  | _, _, .cons r t => by
    have e : _ = V.bl _ := r
    rw [e, all_Bl t]
    rfl
theorem ls_I {H : Hp} {a : Addr} {ns : List Int} (h : Ls IsI H a ns) : H a = some (.lst (ns.map V.int)) := by
  obtain ⟨xs, h1, h2⟩ := h
  rw [h1, all_I h2]
theorem ls_Bl {H : Hp} {a : Addr} {ns : List Bool} (h : Ls IsBl H a ns) : H a = some (.lst (ns.map V.bl)) := by
  obtain ⟨xs, h1, h2⟩ := h
  rw [h1, all_Bl h2]
theorem ls_of_ints {H : Hp} {a : Addr} {ns : List Int} (h : H a = some (.lst (ns.map V.int))) : Ls IsI H a ns := by
  refine ⟨_, h, ?_⟩
  clear h
  induction ns with
  | nil => exact .nil
  | cons n r ih => exact .cons rfl ih
/-- a point: a tuple of ints; labels: a tuple of truth values -/
def IsP : Hp → V → List Int → Prop := fun H v p => ∃ a, v = .ref a ∧ H a = some (.tup (p.map V.int))
def IsB : Hp → V → List Bool → Prop := fun H v p => ∃ a, v = .ref a ∧ H a = some (.tup (p.map V.bl))
theorem tst_P : Tst IsP := fun _ _ _ _ e h => by
  obtain ⟨a, h1, h2⟩ := h
  exact ⟨a, h1, e _ _ h2⟩
theorem tst_B : Tst IsB := fun _ _ _ _ e h => by
  obtain ⟨a, h1, h2⟩ := h
  exact ⟨a, h1, e _ _ h2⟩
/-- an example: a pair of a point and a label; a row of a view; a number and a point -/
def IsEx : Hp → V → List Int × Bool → Prop := fun H v d => ∃ a x, v = .ref a ∧ H a = some (.tup [x, .bl d.2]) ∧ IsP H x d.1
def IsVw : Hp → V → Int × List Int × Bool → Prop := fun H v d => ∃ a x, v = .ref a ∧ H a = some (.tup [.int d.1, x, .bl d.2.2]) ∧ IsP H x d.2.1
def IsNP : Hp → V → Int × List Int → Prop := fun H v d => ∃ a x, v = .ref a ∧ H a = some (.tup [.int d.1, x]) ∧ IsP H x d.2
theorem tst_Ex : Tst IsEx := fun _ _ _ _ e h => by
  obtain ⟨a, x, h1, h2, h3⟩ := h
  exact ⟨a, x, h1, e _ _ h2, tst_P _ _ _ _ e h3⟩
theorem tst_Vw : Tst IsVw := fun _ _ _ _ e h => by
  obtain ⟨a, x, h1, h2, h3⟩ := h
  exact ⟨a, x, h1, e _ _ h2, tst_P _ _ _ _ e h3⟩
theorem tst_NP : Tst IsNP := fun _ _ _ _ e h => by
  obtain ⟨a, x, h1, h2, h3⟩ := h
  exact ⟨a, x, h1, e _ _ h2, tst_P _ _ _ _ e h3⟩
/-- a list or a tuple stands at a -/
def IsSeq (H : Hp) (a : Addr) : Prop := (∃ xs, H a = some (.lst xs)) ∨ ∃ xs, H a = some (.tup xs)
theorem IsSeq.mono {H H' : Hp} {a : Addr} (e : Ex H H') (h : IsSeq H a) : IsSeq H' a := by
  rcases h with ⟨xs, h⟩ | ⟨xs, h⟩
  · exact .inl ⟨xs, e _ _ h⟩
  · exact .inr ⟨xs, e _ _ h⟩
/-- an expression that is never come to -/
theorem pe_never {X : Cx} {e : Expr} : PE X e (fun _ _ _ => False) := ⟨fun _ _ _ _ _ _ h => h.elim⟩
section
variable {X : Cx} (K : PySem.W.Frag)
theorem kix_list (e : X.K = K := by rfl) : IxR X (rIxL K) := e ▸ ix_list
theorem kix_tup (e : X.K = K := by rfl) : IxR X (rIxT K) := e ▸ ix_tup
theorem ksl_list (e : X.K = K := by rfl) : SlR X (rSlL K) := e ▸ sl_list
theorem ksl_tup (e : X.K = K := by rfl) : SlR X (rSlA K) := e ▸ sl_tupA
theorem klen (e : X.K = K := by rfl) : CallR X (.builtin "len") (Evl.rLenS K) := e ▸ call_len_seq
theorem klist_of (e : X.K = K := by rfl) : CallR X (.type "list") (Evl.rListS K) := e ▸ call_list_of
theorem kall (hc : X.calm = true) (e : X.K = K := by rfl) : CallR X (.builtin "all") (rAll K) := e ▸ cr_all hc
theorem kany (hc : X.calm = true) (e : X.K = K := by rfl) : CallR X (.builtin "any") (rAny K) := e ▸ cr_any hc
theorem ksum (hc : X.calm = true) (e : X.K = K := by rfl) : CallR X (.builtin "sum") (rSum K) := e ▸ cr_sum hc
theorem kmax (hc : X.calm = true) (e : X.K = K := by rfl) : CallR X (.builtin "max") (rMax K) := e ▸ cr_max hc
theorem kmin (hc : X.calm = true) (e : X.K = K := by rfl) : CallR X (.builtin "min") (rMin K) := e ▸ cr_min hc
theorem ksorted (e : X.K = K := by rfl) : CallR X (.builtin "sorted") (rSorted K) := e ▸ cr_sorted
theorem kisi (e : X.K = K := by rfl) : CallR X (.builtin "isinstance") (rIsi K) := e ▸ call_isi
theorem kisiT (e : X.K = K := by rfl) : CallR X (.builtin "isinstance") (rIsiT K) := e ▸ call_isiT
theorem kcat (e : X.K = K := by rfl) : OpR X (binaryOp .Add) (rCatA K) := e ▸ op_catA
theorem keqD (hu : X.A.units + 64 < cLine) (e : X.K = K := by rfl) : OpR X (compareOp .Eq) (rEqD K) := e ▸ op_eqD hu
theorem kneD (hu : X.A.units + 64 < cLine) (e : X.K = K := by rfl) : OpR X (compareOp .NotEq) (rNeD K) := e ▸ op_neD hu
theorem kinD (hu : X.A.units + 65 < cLine) (e : X.K = K := by rfl) : OpR X (compareOp .In) (rInD K) := e ▸ op_inD hu
theorem kpg_tup (n : Nat) {es : List Expr} {k : Nat} {t : TGs} {pos : Pos} (hc : X.calm = true) (h : PGs X es t)
    (hn : (assignEach es X.env).length = n := by rfl) (hst : (assignEach es X.env).findIdx? (·.1) = none := by rfl) (e : X.K = K := by rfl) : PG X (.Tuple es k pos) (gTup K n t) := e ▸ pg_tup hc h hn hst
theorem kpe_tupleOf {a : Expr} {ta : TE} {p pos : Pos} (hg : Gl X "tuple") (hm : X.mg "tuple" = none) (ha : PE X a ta) (na : starEach [a] X.env = (false, eval a X.env) :: starEach [] X.env := by rfl) (e : X.K = K := by rfl) :
    PE X (.Call (.Name "tuple" p) [a] [] pos) (tThen ta (kTup K)) := e ▸ pe_tupleOf hg hm ha na
theorem kpi_list {tg l : Expr} {tl : TE} (hl : PE X l tl) (e : X.K = K := by rfl) : PI X tg l (iList K tl) := e ▸ pi_list hl
theorem kpi_tup {tg l : Expr} {tl : TE} (hl : PE X l tl) (e : X.K = K := by rfl) : PI X tg l (iTup K tl) := e ▸ pi_tup hl
theorem kpi_zip {e1 e2 : Expr} {ta : TA} {p pos tpos : Pos} {elts : List Expr} {kk : Nat} (hg : Gl X "zip") (hm : X.mg "zip" = none) (ha : PA X [e1, e2] ta)
    (hs : starEach [e1, e2] X.env = (false, eval e1 X.env) :: starEach [e2] X.env := by rfl) (hpl : (backTo pos (starEach [e2] X.env)).any (·.1) = false := by rfl) (e : X.K = K := by rfl) :
    PI X (.Tuple elts kk tpos) (.Call (.Name "zip" p) [e1, e2] [] pos) (iZip K ta) := e ▸ pi_zip hg hm ha hs hpl
theorem kpi_enum {e1 : Expr} {ta : TA} {p pos tpos : Pos} {elts : List Expr} {kk : Nat} (hg : Gl X "enumerate") (hm : X.mg "enumerate" = none) (ha : PA X [e1] ta) (hs : starEach [e1] X.env = [(false, eval e1 X.env)] := by rfl) (e : X.K = K := by rfl) :
    PI X (.Tuple elts kk tpos) (.Call (.Name "enumerate" p) [e1] [] pos) (iEnum K ta) := e ▸ pi_enum hg hm ha hs
theorem kpe_fld {f : Str} {pos : Pos} {e1 : Expr} {ta : TE} (he : PE X e1 ta) (hb : attributeBase e1 f X.env (eval e1 X.env) = eval e1 X.env) (e : X.K = K := by rfl) : PE X (.Attribute e1 f pos) (tFld K ta f) := e ▸ pe_fld he hb
theorem kps_fld {o value : Expr} {f : Str} {pos pos' : Pos} {ta tv : TE} (ha : PE X o ta) (hv : PE X value tv) (hs : swapsWith value (some (.Attribute o f pos')) pos.line X.env = pure false) (e : X.K = K := by rfl) :
    PS X (.Assign [.Attribute o f pos'] value pos) (sFld K ta tv f) := e ▸ ps_fld ha hv hs
theorem kpe_bm {o e1 : Expr} {es : List Expr} {to : TE} {t : TA} {name : Str} {apos cpos : Pos} {T id : String} {r : V → List V → Hp → VK → Prop} (pa : PlainAttrs T) (slot : Slot T name id) (hty : typeOf (.builtin id) = pure (.type "method_descriptor")) (hm : MtR X id r) (ho : PE X o to) (ha : PA X (e1 :: es) t)
    (hbase : attributeBase o name X.env (eval o X.env) = eval o X.env := by rfl)
    (hfew : ((backTo cpos (starEach (e1 :: es) X.env)).all (fun x => !x.1) && (backToKw cpos (keywordEach [] X.env)).all (fun x => x.1.isSome)
      && decide ((e1 :: es).length + ([] : List Keyword).length + (if ([] : List Keyword).isEmpty then 0 else 1) < 30)) = true := by rfl)
    (hline : (apos.endLine == cpos.line) = true := by rfl) (hs : starEach (e1 :: es) X.env = (false, eval e1 X.env) :: starEach es X.env := by rfl) (hplain : (backTo cpos (starEach es X.env)).any (·.1) = false := by rfl) (e : X.K = K := by rfl) :
    PE X (.Call (.Attribute o name apos) (e1 :: es) [] cpos) (tBM K T r to t) := e ▸ pe_bm pa slot hty hm ho ha hbase hfew hline hs hplain
end
theorem room65 {k : Nat} {A : Around} (hr : Room k A) : A.units + 65 < cLine := by
  have := hr.un
  omega
theorem room64 {k : Nat} {A : Around} (hr : Room k A) : A.units + 64 < cLine := hr.units
theorem sz {n : Nat} (h : n ≤ 100000) : n ≤ sizeLine := Nat.le_trans h (by decide)
theorem szl {n : Nat} (h : n < 100000) : n < sizeLine := Nat.lt_of_lt_of_le h (by decide)
end K49

namespace K49
open PySem PySem.Spec PyProof.Rows L2
open Evl (Ex)
/-- a relation that is one of data -/
structure Enc {α : Type} (R : Hp → V → α → Prop) (enc : α → PyData) : Prop where
  dp : ∀ (K : PySem.W.Frag) (H : Hp) (v : V) (d : α), R H v d → Dp K H v (enc d)
  lay : ∀ d, (enc d).canLay0 = true
  dep : ∀ d, (enc d).depth ≤ 10
theorem canLayAll_map {α : Type} {enc : α → PyData} (h : ∀ d, (enc d).canLay0 = true) : ∀ ds : List α, PyData.canLayAll0 (ds.map enc) = true
  | [] => by simp [PyData.canLayAll0]
  | d :: ds => by simp [PyData.canLayAll0, h d, canLayAll_map h ds]
theorem depthAll_map' {α : Type} {enc : α → PyData} {n : Nat} (h : ∀ d, (enc d).depth ≤ n) : ∀ ds : List α, PyData.depthAll (ds.map enc) ≤ n
  | [] => by simp [PyData.depthAll]
  | d :: ds => by
    have h1 := h d
    have h2 := depthAll_map' h ds
    simp only [List.map_cons, PyData.depthAll]
    omega
section
variable {α : Type} {R : Hp → V → α → Prop} {enc : α → PyData}
theorem Enc.all (e : Enc R enc) (K : PySem.W.Frag) (H : Hp) : ∀ {xs : List V} {ds : List α}, All R H xs ds → DpAll K H xs (ds.map enc)
  | _, _, .nil => .nil
  | _, _, .cons r t => .cons (e.dp K H _ _ r) (e.all K H t)
theorem Enc.ls (e : Enc R enc) (K : PySem.W.Frag) {H : Hp} {a : Addr} {ds : List α} (h : Ls R H a ds) : Dp K H (.ref a) (.list (ds.map enc)) := by
  obtain ⟨xs, h1, h2⟩ := h
  exact .lst (SqL.of h1) (e.all K H h2)
theorem shaped_of {d : PyData} (h1 : d.canLay0 = true) (h2 : d.depth ≤ 64) : SeqAt.shaped d = true := by
  show (d.canLay0 && decide (d.depth ≤ 64)) = true
  rw [h1, decide_eq_true h2]
  rfl
theorem Enc.shp (e : Enc R enc) (d : α) : SeqAt.shaped (enc d) = true := shaped_of (e.lay d) (Nat.le_trans (e.dep d) (by decide))
theorem Enc.shpL (e : Enc R enc) (ds : List α) : SeqAt.shaped (.list (ds.map enc)) = true := by
  refine shaped_of ?_ ?_
  · simp only [PyData.canLay0]
    exact canLayAll_map e.lay ds
  · have := depthAll_map' e.dep ds
    simp only [PyData.depth]
    omega
end
/-- == with the empty list, the empty tuple -/
theorem shp_nil : SeqAt.shaped (.list []) = true := shaped_of (by simp [PyData.canLay0, PyData.canLayAll0]) (by simp [PyData.depth, PyData.depthAll])
theorem shp_nilT : SeqAt.shaped (.tuple []) = true := shaped_of (by simp [PyData.canLay0, PyData.canLayAll0]) (by simp [PyData.depth, PyData.depthAll])
theorem eqv_nil (ds : List PyData) : PyData.eqv (.list ds) (.list []) = ds.isEmpty := by
  cases ds <;> simp [PyData.eqv, PyData.eqvAll]
theorem eqv_nilT (ds : List PyData) : PyData.eqv (.tuple ds) (.tuple []) = ds.isEmpty := by
  cases ds <;> simp [PyData.eqv, PyData.eqvAll]
theorem dp_nil {K : PySem.W.Frag} {H : Hp} {a : Addr} (h : H a = some (.lst [])) : Dp K H (.ref a) (.list []) := .lst (SqL.of h) .nil
theorem dp_nilT {K : PySem.W.Frag} {H : Hp} {a : Addr} (h : H a = some (.tup [])) : Dp K H (.ref a) (.tuple []) := .tup (SqT.of h) .nil
/-- x == [] of a list of data -/
theorem eq_nil {α : Type} {R : Hp → V → α → Prop} {enc : α → PyData} (E : Enc R enc) {K : PySem.W.Frag} {H : Hp} {a b : Addr} {ds : List α} {Q : VK} (h : Ls R H a ds) (hb : H b = some (.lst [])) (q : Q (.bl ds.isEmpty) H) : rEqD K (.ref a) (.ref b) H Q :=
  ⟨_, _, E.ls K h, dp_nil hb, E.shpL ds, shp_nil, by rw [eqv_nil, List.isEmpty_map]; exact q⟩
theorem ne_nil {α : Type} {R : Hp → V → α → Prop} {enc : α → PyData} (E : Enc R enc) {K : PySem.W.Frag} {H : Hp} {a b : Addr} {ds : List α} {Q : VK} (h : Ls R H a ds) (hb : H b = some (.lst [])) (q : Q (.bl (!ds.isEmpty)) H) : rNeD K (.ref a) (.ref b) H Q :=
  ⟨_, _, E.ls K h, dp_nil hb, E.shpL ds, shp_nil, by rw [eqv_nil, List.isEmpty_map]; exact q⟩
theorem enc_I : Enc IsI PyData.int := ⟨fun K H v d h => by rw [show v = .int d from h]; exact .int d, fun d => by simp [PyData.canLay0], fun d => by simp [PyData.depth]⟩
theorem enc_Bl : Enc IsBl PyData.bool := ⟨fun K H v d h => by rw [show v = .bl d from h]; exact .bl d, fun d => by simp [PyData.canLay0], fun d => by simp [PyData.depth]⟩
def eP (p : List Int) : PyData := .tuple (p.map PyData.int)
def eB (p : List Bool) : PyData := .tuple (p.map PyData.bool)
theorem dpAll_ints (K : PySem.W.Frag) (H : Hp) : ∀ p : List Int, DpAll K H (p.map V.int) (p.map PyData.int)
  | [] => .nil
  | x :: p => .cons (.int x) (dpAll_ints K H p)
theorem dpAll_bools (K : PySem.W.Frag) (H : Hp) : ∀ p : List Bool, DpAll K H (p.map V.bl) (p.map PyData.bool)
  | [] => .nil
  | x :: p => .cons (.bl x) (dpAll_bools K H p)
theorem dep_tup {α : Type} {enc : α → PyData} {n : Nat} (h : ∀ d, (enc d).depth ≤ n) (ds : List α) : PyData.depth (.tuple (ds.map enc)) ≤ n + 1 := by
  have := depthAll_map' h ds
  simp only [PyData.depth]
  omega
theorem lay_tup {α : Type} {enc : α → PyData} (h : ∀ d, (enc d).canLay0 = true) (ds : List α) : PyData.canLay0 (.tuple (ds.map enc)) = true := by
  simp only [PyData.canLay0]
  exact canLayAll_map h ds
theorem enc_P : Enc IsP eP := ⟨fun K H v d h => by obtain ⟨a, rfl, h⟩ := h; exact .tup (SqT.of h) (dpAll_ints K H d), fun d => lay_tup enc_I.lay d, fun d => Nat.le_trans (dep_tup (n := 0) (fun d => by simp [PyData.depth]) d) (by decide)⟩
theorem enc_B : Enc IsB eB := ⟨fun K H v d h => by obtain ⟨a, rfl, h⟩ := h; exact .tup (SqT.of h) (dpAll_bools K H d), fun d => lay_tup enc_Bl.lay d, fun d => Nat.le_trans (dep_tup (n := 0) (fun d => by simp [PyData.depth]) d) (by decide)⟩
theorem eqvAll_ints : ∀ p q : List Int, PyData.eqvAll (p.map PyData.int) (q.map PyData.int) = decide (p = q)
  | [], [] => by simp [PyData.eqvAll]
  | [], _ :: _ => by simp [PyData.eqvAll]
  | _ :: _, [] => by simp [PyData.eqvAll]
  | x :: p, y :: q => by
    simp only [List.map_cons, PyData.eqvAll, PyData.eqv, eqvAll_ints p q]
    by_cases h : x = y
    · subst h; simp
    · simp [h]
theorem eqv_P (p q : List Int) : PyData.eqv (eP p) (eP q) = decide (p = q) := by
  simp only [eP, PyData.eqv]
  exact eqvAll_ints p q
end K49

namespace K49
open PySem PySem.Spec PyProof.Rows L2
open Evl (Ex)
section
variable {prog : Program} {w : World} {A : Around} {E : Value → Shared → Prop} {s : Shared} {z TI TO T i1 i2 : Addr} {fp1 fp2 : List Addr} {n1 n2 i : Nat} {P1 P2 : Nat → Value → Prop} {St1 St2 : Nat → Heap → Prop} {f : Bool} {oT : Obj}
theorem held_item {Q : Value → Shared → Prop} (S : ZipSep2 z TI TO i1 i2 fp1 fp2) (D1 : Draws prog w A i1 fp1 n1 P1 St1) (D2 : Draws prog w A i2 fp2 n2 P2 St2)
    (hz : IsZipHeld s.heap z TI TO T f) (hT : s.heap.get? T = some oT) (hTI : IsTupOf2 s.heap TI (.ref i1) (.ref i2)) (st1 : St1 i s.heap) (st2 : St2 i s.heap) (hlt1 : i < n1) (hlt2 : i < n2)
    (hQ : ∀ x1 x2 h' tk, P1 i x1 → P2 i x2 → IsZipHeld h' z TI TO T true → St1 (i + 1) h' → St2 (i + 1) h' → IsTupOf2 h' s.heap.objs.size x1 x2 → h'.objs.size = s.heap.objs.size + 1 →
      (∀ c o, c ≠ z → c ≠ i1 → c ≠ i2 → s.heap.get? c = some o → h'.get? c = some o) → Q (.ref s.heap.objs.size) { s with heap := h', toks := tk }) :
    wpAny (model prog w) A (Builtin.«zip.__next__» ⟨[.ref z], []⟩) (fun fin s' => ∃ v, fin = .done (.ret v) ∧ Q v s') E s := by
  obtain ⟨hp, g, d, tk0, os⟩ := s
  show wpAny _ _ (field (.ref z) 2 >>= _) _ _ _
  refine wpAny_bind (wpAny_field hz rfl (x := .bool false) rfl ?_)
  show wpAny _ _ (field (.ref z) 3 >>= _) _ _ _
  refine wpAny_bind (wpAny_field hz rfl (x := .ref TI) rfl ?_)
  refine wpAny_bind (wpAny_seqItems hTI rfl ?_)
  show wpAny _ _ (Builtin.SmallTypes.ownedTupleIsFree (.ref z) >>= _) _ _ _
  refine wpAny_bind (wpAny_tupleHeld_zip hz hT fun h₁ hz₁ hs₁ => ?_)
  replace hs₁ : Heap.SameBut z hp h₁ := hs₁
  simp only [Bool.false_eq_true, if_false]
  refine wpAny_bind ?_
  rw [← Array.forIn_toList]
  simp only [List.forIn_cons, List.forIn_nil]
  refine wpAny_bind (wpAny_bind (wpAny_holding ?_))
  show wpAny _ _ (Builtin.SmallTypes.nextOf (.ref i1) >>= _) _ _ ⟨h₁, g, d, tk0, os⟩
  refine wpAny_bind (D1.item i _ _ _ hlt1 (D1.over st1 hs₁ S.zf1) fun x1 h₂ tk1 hx1 sn1 hs₂ => wpAny_pure ?_)
  replace hs₂ : Heap.SameBut i1 h₁ h₂ := hs₂
  refine wpAny_pure ?_
  refine wpAny_bind (wpAny_bind (wpAny_holding ?_))
  show wpAny _ _ (Builtin.SmallTypes.nextOf (.ref i2) >>= _) _ _ ⟨h₂, g, d, tk1, os⟩
  refine wpAny_bind (D2.item i _ _ _ hlt2 (D2.over (D2.over st2 hs₁ S.zf2) hs₂ S.sep1_2) fun x2 h₃ tk2 hx2 sn2 hs₃ => wpAny_pure ?_)
  replace hs₃ : Heap.SameBut i2 h₂ h₃ := hs₃
  refine wpAny_pure (wpAny_pure ?_)
  show wpAny _ _ (newTuple [x1, x2] >>= _) _ _ ⟨h₃, g, d, tk2, os⟩
  refine wpAny_bind (wpAny_newTuple ?_)
  have hsz : h₃.objs.size = hp.objs.size := by rw [hs₃.1, hs₂.1, hs₁.1]
  have hz₃ : IsZipHeld h₃ z TI TO T true := hs₃.extBut _ _ S.zi2 (hs₂.extBut _ _ S.zi1 hz₁)
  have hk : ∀ c o, c ≠ z → c ≠ i1 → c ≠ i2 → hp.get? c = some o → h₃.get? c = some o := fun c o c1 c2 c3 e => hs₃.extBut _ _ c3 (hs₂.extBut _ _ c2 (hs₁.extBut _ _ c1 e))
  refine wpAny_pure ⟨_, rfl, ?_⟩
  show Q (.ref h₃.objs.size) _
  have hp4 : IsTupOf2 (h₃.push { cls := .type "tuple", data := .seq #[x1, x2] }) h₃.objs.size x1 x2 := Heap.get?_push_size _ rfl
  have hz4 : (h₃.push { cls := .type "tuple", data := .seq #[x1, x2] }).objs.size = h₃.objs.size + 1 := Heap.size_push ..
  rw [hsz] at hp4 hz4 ⊢
  exact hQ x1 x2 _ tk2 hx1 hx2 (Heap.get?_push_of_some _ hz₃) (D1.frame _ _ _ (D1.over sn1 hs₃ S.sep2_1) fun b hb o e => Heap.get?_push_of_some _ e) (D2.frame _ _ _ sn2 fun b hb o e => Heap.get?_push_of_some _ e) hp4 hz4 fun c o c1 c2 c3 e => Heap.get?_push_of_some _ (hk c o c1 c2 c3 e)
theorem held_end {Q : Fin → Shared → Prop} (S : ZipSep2 z TI TO i1 i2 fp1 fp2) (D1 : Draws prog w A i1 fp1 n1 P1 St1) (D2 : Draws prog w A i2 fp2 n2 P2 St2)
    (hz : IsZipHeld s.heap z TI TO T f) (hT : s.heap.get? T = some oT) (hTI : IsTupOf2 s.heap TI (.ref i1) (.ref i2)) (st1 : St1 i s.heap) (st2 : St2 i s.heap) (hle1 : i ≤ n1) (hle2 : i ≤ n2) (hend : i = n1 ∨ i = n2)
    (hE : ∀ h' tk e, (∀ c o, c ≠ z → c ≠ i1 → c ≠ i2 → s.heap.get? c = some o → h'.get? c = some o) → (∃ o, h'.get? e = some o ∧ o.cls = .type "StopIteration") → E (.ref e) { s with heap := h', toks := tk }) :
    wpAny (model prog w) A (Builtin.«zip.__next__» ⟨[.ref z], []⟩) Q E s := by
  obtain ⟨hp, g, d, tk0, os⟩ := s
  show wpAny _ _ (field (.ref z) 2 >>= _) _ _ _
  refine wpAny_bind (wpAny_field hz rfl (x := .bool false) rfl ?_)
  show wpAny _ _ (field (.ref z) 3 >>= _) _ _ _
  refine wpAny_bind (wpAny_field hz rfl (x := .ref TI) rfl ?_)
  refine wpAny_bind (wpAny_seqItems hTI rfl ?_)
  show wpAny _ _ (Builtin.SmallTypes.ownedTupleIsFree (.ref z) >>= _) _ _ _
  refine wpAny_bind (wpAny_tupleHeld_zip hz hT fun h₁ hz₁ hs₁ => ?_)
  replace hs₁ : Heap.SameBut z hp h₁ := hs₁
  simp only [Bool.false_eq_true, if_false]
  refine wpAny_bind ?_
  rw [← Array.forIn_toList]
  simp only [List.forIn_cons, List.forIn_nil]
  refine wpAny_bind (wpAny_bind (wpAny_holding ?_))
  show wpAny _ _ (Builtin.SmallTypes.nextOf (.ref i1) >>= _) _ _ ⟨h₁, g, d, tk0, os⟩
  by_cases hlt1 : i < n1
  · refine wpAny_bind (D1.item i _ _ _ hlt1 (D1.over st1 hs₁ S.zf1) fun x1 h₂ tk1 hx1 sn1 hs₂ => wpAny_pure ?_)
    replace hs₂ : Heap.SameBut i1 h₁ h₂ := hs₂
    have hi2 : i = n2 := by omega
    refine wpAny_pure ?_
    refine wpAny_bind (wpAny_bind (wpAny_holding ?_))
    show wpAny _ _ (Builtin.SmallTypes.nextOf (.ref i2) >>= _) _ _ ⟨h₂, g, d, tk1, os⟩
    refine wpAny_bind (D2.done ⟨h₂, g, d, tk1, os⟩ _ _ (by rw [← hi2]; exact D2.over (D2.over st2 hs₁ S.zf2) hs₂ S.sep1_2) fun h₃ e hs₃ he => ?_)
    exact hE h₃ tk1 e (fun c o c1 c2 c3 x => hs₃ _ _ c3 (hs₂.extBut _ _ c2 (hs₁.extBut _ _ c1 x))) he
  · have hi1 : i = n1 := by omega
    refine wpAny_bind (D1.done ⟨h₁, g, d, tk0, os⟩ _ _ (by rw [← hi1]; exact D1.over st1 hs₁ S.zf1) fun h₂ e hs₂ he => ?_)
    exact hE h₂ tk0 e (fun c o c1 c2 _ x => hs₂ _ _ c2 (hs₁.extBut _ _ c1 x)) he
/-- a zip at its turn i, its last tuple free (none is out yet) or held -/
def ZSt (z TI TO i1 i2 : Addr) (St1 St2 : Nat → Heap → Prop) (i : Nat) (h : Heap) : Prop := ((IsZip h z TI TO .none ∧ ∃ a1 a2, IsTupOf2 h TO a1 a2) ∨ ∃ T f oT, IsZipHeld h z TI TO T f ∧ h.get? T = some oT ∧ T ≠ z ∧ T ≠ TO ∧ T ≠ i1 ∧ T ≠ i2) ∧ IsTupOf2 h TI (.ref i1) (.ref i2) ∧ St1 i h ∧ St2 i h ∧ ∃ oO, h.get? TO = some oO
theorem znext_item {Q : Option Value → Shared → Prop} (S : ZipSep2 z TI TO i1 i2 fp1 fp2) (D1 : Draws prog w A.in1 i1 fp1 n1 P1 St1) (D2 : Draws prog w A.in1 i2 fp2 n2 P2 St2) (st : ZSt z TI TO i1 i2 St1 St2 i s.heap) (hlt1 : i < n1) (hlt2 : i < n2)
    (hQ : ∀ x1 x2 h' tk, P1 i x1 → P2 i x2 → ZSt z TI TO i1 i2 St1 St2 (i + 1) h' → IsTupOf2 h' s.heap.objs.size x1 x2 → (∀ c o, c ≠ z → c ≠ TO → c ≠ i1 → c ≠ i2 → s.heap.get? c = some o → h'.get? c = some o) → Q (some (.ref s.heap.objs.size)) { s with heap := h', toks := tk }) :
    wpAny (model prog w) A (pyNext (.ref z)) Q E s := by
  obtain ⟨hz, hTI, st1, st2, oO, hO⟩ := st
  have l1 : s.heap.objs.size ≠ i1 := by obtain ⟨_, e⟩ := D1.live _ _ st1; exact Nat.ne_of_gt (Heap.lt_size e)
  have l2 : s.heap.objs.size ≠ i2 := by obtain ⟨_, e⟩ := D2.live _ _ st2; exact Nat.ne_of_gt (Heap.lt_size e)
  rcases hz with ⟨hz, a1, a2, hTO⟩ | ⟨T, f, oT, hz, hT, t1, t2, t3, t4⟩
  · refine wpAny_pyNext_zipD2_item S D1 D2 hz hTI hTO st1 st2 hlt1 hlt2 fun x1 x2 h' tk y1 y2 b1 b2 d1 d2 b5 b6 hk => hQ x1 x2 h' tk y1 y2 ⟨.inr ⟨s.heap.objs.size, false, _, b1, b5, Nat.ne_of_gt (Heap.lt_size hz), Nat.ne_of_gt (Heap.lt_size hTO), l1, l2⟩, hk _ _ S.TIz S.TITO S.TIi1 S.TIi2 hTI, d1, d2, _, b2⟩ b5 hk
  · have hTy : s.TypeIs (.ref z) "zip" := ⟨_, hz, rfl⟩
    unfold pyNext
    exact wpAny_bind (wpAny_attempt (wpAny_callSpecial?_slot (name := Str.ofString "__next__") hTy F.slot_zip_next
      (wpAny_call_entry F.slot_zip_next hTy F.entry_zip_next
        (held_item S D1 D2 hz hT hTI st1 st2 hlt1 hlt2 fun x1 x2 h' tk y1 y2 b1 d1 d2 b5 b6 hk => wpAny_pure (hQ x1 x2 h' tk y1 y2 ⟨.inr ⟨T, true, oT, b1, hk _ _ t1 t3 t4 hT, t1, t2, t3, t4⟩, hk _ _ S.TIz S.TIi1 S.TIi2 hTI, d1, d2, oO, hk _ _ S.TOz S.Ti1 S.Ti2 hO⟩ b5 fun c o c1 _ c3 c4 e => hk c o c1 c3 c4 e)) (F.args_zip_next_1 _))))
theorem znext_end {Q : Option Value → Shared → Prop} (S : ZipSep2 z TI TO i1 i2 fp1 fp2) (D1 : Draws prog w A.in1 i1 fp1 n1 P1 St1) (D2 : Draws prog w A.in1 i2 fp2 n2 P2 St2) (st : ZSt z TI TO i1 i2 St1 St2 i s.heap) (hle1 : i ≤ n1) (hle2 : i ≤ n2) (hend : i = n1 ∨ i = n2)
    (hQ : ∀ h' tk, (∀ c o, c ≠ z → c ≠ TO → c ≠ i1 → c ≠ i2 → s.heap.get? c = some o → h'.get? c = some o) → Q none { s with heap := h', toks := tk }) :
    wpAny (model prog w) A (pyNext (.ref z)) Q E s := by
  obtain ⟨hz, hTI, st1, st2, oO, hO⟩ := st
  rcases hz with ⟨hz, a1, a2, hTO⟩ | ⟨T, f, oT, hz, hT, t1, t2, t3, t4⟩
  · exact wpAny_pyNext_zipD2_end S D1 D2 hz hTI hTO st1 st2 hle1 hle2 hend hQ
  · have hTy : s.TypeIs (.ref z) "zip" := ⟨_, hz, rfl⟩
    unfold pyNext
    refine wpAny_bind (wpAny_attempt (wpAny_callSpecial?_slot (name := Str.ofString "__next__") hTy F.slot_zip_next
      (wpAny_call_entry F.slot_zip_next hTy F.entry_zip_next (held_end S D1 D2 hz hT hTI st1 st2 hle1 hle2 hend fun h' tk e hk he => ?_) (F.args_zip_next_1 _))))
    obtain ⟨o, ho, hc⟩ := he
    refine wpAny_bind (wpAny_isInstance (T := "StopIteration") (b := true) ⟨o, ho, hc⟩ isSubtype_stop ?_)
    exact wpAny_pure (hQ _ _ fun c o c1 _ c3 c4 e => hk c o c1 c3 c4 e)
end
section
variable {prog : Program} {w : World} {A : Around} {E : Value → Shared → Prop} {z TI TO i1 i2 LS : Addr} {fp1 fp2 : List Addr} {n1 n2 : Nat} {P1 P2 : Nat → Value → Prop} {St1 St2 : Nat → Heap → Prop} {R : Result → Shared → Prop}
/-- what was got so far: new pairs -/
def ZAcc (z TO i1 i2 LS : Addr) (P1 P2 : Nat → Value → Prop) (h : Heap) (acc : Array Value) (i : Nat) : Prop := acc.size = i ∧ (∀ j, j < i → ∃ T x1 x2, acc[j]? = some (.ref T) ∧ IsTupOf2 h T x1 x2 ∧ P1 j x1 ∧ P2 j x2 ∧ T ≠ z ∧ T ≠ TO ∧ T ≠ i1 ∧ T ≠ i2 ∧ LS < T) ∧ ∀ (j k : Nat) (T : Addr), acc[j]? = some (Value.ref T) → acc[k]? = some (Value.ref T) → j = k
theorem ZAcc.keep {h h' : Heap} {acc : Array Value} {i : Nat} (a : ZAcc z TO i1 i2 LS P1 P2 h acc i) (k : ∀ c o, c ≠ z → c ≠ TO → c ≠ i1 → c ≠ i2 → c ≠ LS → h.get? c = some o → h'.get? c = some o) : ZAcc z TO i1 i2 LS P1 P2 h' acc i :=
  ⟨a.1, fun j hj => by
    obtain ⟨T, x1, x2, e1, e2, e3, e4, t1, t2, t3, t4, t5⟩ := a.2.1 j hj
    exact ⟨T, x1, x2, e1, k T _ t1 t2 t3 t4 (Nat.ne_of_gt t5) e2, e3, e4, t1, t2, t3, t4, t5⟩, a.2.2⟩
theorem ZSt.upd {h h' : Heap} {i : Nat} (S : ZipSep2 z TI TO i1 i2 fp1 fp2) (D1 : Draws prog w A i1 fp1 n1 P1 St1) (D2 : Draws prog w A i2 fp2 n2 P2 St2) (hz : LS ≠ z) (hTO : LS ≠ TO) (hTI : LS ≠ TI) (f1 : LS ∉ fp1) (f2 : LS ∉ fp2)
    (st : ZSt z TI TO i1 i2 St1 St2 i h) (k : ∀ c o, c ≠ LS → h.get? c = some o → h'.get? c = some o) (ex : ∃ o, h'.get? LS = some o) : ZSt z TI TO i1 i2 St1 St2 i h' := by
  obtain ⟨q, e1, s1, s2, oO, hO⟩ := st
  refine ⟨?_, k _ _ hTI.symm e1, D1.frame _ _ _ s1 fun b hb o e => k b o (fun x => f1 (x ▸ hb)) e, D2.frame _ _ _ s2 fun b hb o e => k b o (fun x => f2 (x ▸ hb)) e, oO, k _ _ hTO.symm hO⟩
  rcases q with ⟨q1, a1, a2, q2⟩ | ⟨T, f, oT, q1, q2, t⟩
  · exact .inl ⟨k _ _ hz.symm q1, a1, a2, k _ _ hTO.symm q2⟩
  · by_cases e : T = LS
    · obtain ⟨o, ho⟩ := ex
      exact .inr ⟨T, f, o, k _ _ hz.symm q1, by rw [e]; exact ho, t⟩
    · exact .inr ⟨T, f, oT, k _ _ hz.symm q1, k _ _ e q2, t⟩
theorem zext_loop (S : ZipSep2 z TI TO i1 i2 fp1 fp2) (D1 : Draws prog w A.in1.in1 i1 fp1 n1 P1 St1) (D2 : Draws prog w A.in1.in1 i2 fp2 n2 P2 St2) (hz : LS ≠ z) (hTO : LS ≠ TO) (hTI : LS ≠ TI) (f1 : LS ∉ fp1) (f2 : LS ∉ fp2) (hn : min n1 n2 ≤ sizeLine) (res : Value) :
    ∀ (k i : Nat) (s : Shared) (acc : Array Value) (c : Nat), min n1 n2 - i = k → i ≤ min n1 n2 → ZSt z TI TO i1 i2 St1 St2 i s.heap → s.heap.get? LS = some { cls := .type "list", dict := none, data := .seq acc c, slots := #[] } → ZAcc z TO i1 i2 LS P1 P2 s.heap acc i →
    (∀ h' tk acc' c', (∀ b o, b ≠ z → b ≠ TO → b ≠ i1 → b ≠ i2 → b ≠ LS → s.heap.get? b = some o → h'.get? b = some o) → h'.get? LS = some { cls := .type "list", dict := none, data := .seq acc' c', slots := #[] } → ZAcc z TO i1 i2 LS P1 P2 h' acc' (min n1 n2) → R (.ok (.ret res)) { s with heap := h', toks := tk }) →
    codeAny (model prog w) A (.builtin "list.extend.loop" ⟨[.ref LS, .ref z, res], []⟩) R s := by
  intro k
  have hi1 : LS ≠ i1 := fun e => f1 (e ▸ S.mem1)
  have hi2 : LS ≠ i2 := fun e => f2 (e ▸ S.mem2)
  induction k with
  | zero =>
    intro i s acc c hk hi hst hS hacc hR
    have hin : i = min n1 n2 := by omega
    subst hin
    refine codeAny_builtin F.entry_extend_loop ?_
    rw [Around.under_plainId F.plain_extend_loop _]
    show wpAny _ A.in1 (pyNext (.ref z) >>= _) _ _ s
    refine wpAny_bind (znext_end S D1 D2 hst (by omega) (by omega) (by omega) fun h' tk hk' => ?_)
    exact wpAny_pure (hR h' tk acc c (fun b o b1 b2 b3 b4 _ e => hk' b o b1 b2 b3 b4 e) (hk' _ _ hz hTO hi1 hi2 hS) (hacc.keep fun c o c1 c2 c3 c4 _ e => hk' c o c1 c2 c3 c4 e))
  | succ k ih =>
    intro i s acc c hk hi hst hS hacc hR
    have hlt : i < min n1 n2 := by omega
    refine codeAny_builtin F.entry_extend_loop ?_
    rw [Around.under_plainId F.plain_extend_loop _]
    show wpAny _ A.in1 (pyNext (.ref z) >>= _) _ _ s
    refine wpAny_bind (znext_item S D1 D2 hst (by omega) (by omega) fun x1 x2 h' tk p1 p2 st' hT hk' => ?_)
    have hS' := hk' _ _ hz hTO hi1 hi2 hS
    show wpAny _ A.in1 (updateSeq LS (·.push (.ref s.heap.objs.size)) >>= _) _ _ _
    have hS2 := Heap.get?_update_self (Obj.mapSeq (·.push (Value.ref s.heap.objs.size))) hS' rfl
    have oth : ∀ b o, b ≠ LS → h'.get? b = some o → (h'.update LS (Obj.mapSeq (·.push (Value.ref s.heap.objs.size)))).get? b = some o := fun b o hb e => (Heap.get?_update_other _ _ (Ne.symm hb)).trans e
    have lz : z < s.heap.objs.size := by
      obtain ⟨q, _⟩ := hst
      rcases q with ⟨q1, _⟩ | ⟨_, _, _, q1, _⟩ <;> exact Heap.lt_size q1
    have tne : ∀ b o, s.heap.get? b = some o → s.heap.objs.size ≠ b := fun b o e => Nat.ne_of_gt (Heap.lt_size e)
    have nTO : s.heap.objs.size ≠ TO := by
      obtain ⟨_, _, _, _, oO, hO⟩ := hst
      exact tne _ _ hO
    have l1 : s.heap.objs.size ≠ i1 := by
      obtain ⟨_, _, s1, _⟩ := hst
      obtain ⟨_, e⟩ := D1.live _ _ s1
      exact tne _ _ e
    have l2 : s.heap.objs.size ≠ i2 := by
      obtain ⟨_, _, _, s2, _⟩ := hst
      obtain ⟨_, e⟩ := D2.live _ _ s2
      exact tne _ _ e
    have lS : LS < s.heap.objs.size := Heap.lt_size hS
    refine wpAny_bind ?_
    refine wpAny_updateSeq hS' rfl (wpAny_pure ⟨plainId_quiet F.plain_extend_loop _, ih (i + 1) _ (acc.push (.ref s.heap.objs.size)) _ (by omega) hlt (ZSt.upd S D1 D2 hz hTO hTI f1 f2 st' oth ⟨_, hS2⟩) hS2 ⟨by rw [Array.size_push, hacc.1], fun j hj => ?_, fun j k T ej ek => ?_⟩ fun h'' tk'' acc' c' hk'' hS'' hacc'' => ?_⟩)
      (by rw [hacc.1]; omega) (by show (acc.push (.ref s.heap.objs.size)).size ≤ sizeLine + 1; rw [Array.size_push, hacc.1]; omega)
    · rcases Nat.lt_or_ge j i with hji | hji
      · obtain ⟨T, y1, y2, e1, e2, e3, e4, t1, t2, t3, t4, t5⟩ := hacc.2.1 j hji
        refine ⟨T, y1, y2, ?_, oth _ _ (Nat.ne_of_gt t5) (hk' _ _ t1 t2 t3 t4 e2), e3, e4, t1, t2, t3, t4, t5⟩
        rw [Array.getElem?_push, if_neg (by rw [hacc.1]; omega)]
        exact e1
      · have ej : j = i := by omega
        subst ej
        refine ⟨s.heap.objs.size, x1, x2, ?_, oth _ _ (Nat.ne_of_gt lS) hT, p1, p2, Nat.ne_of_gt lz, nTO, l1, l2, lS⟩
        rw [Array.getElem?_push, if_pos hacc.1.symm]
    · have old : ∀ j, acc[j]? = some (Value.ref T) → T < s.heap.objs.size := fun j e => by
        have hj : j < i := by
          rcases Nat.lt_or_ge j acc.size with q | q
          · rw [← hacc.1]; exact q
          · rw [Array.getElem?_eq_none q] at e
            cases e
        obtain ⟨T', _, _, e1, e2, _⟩ := hacc.2.1 j hj
        rw [e] at e1
        cases e1
        exact Heap.lt_size e2
      rw [Array.getElem?_push] at ej ek
      split at ej <;> split at ek
      · omega
      · cases ej
        exact absurd (old _ ek) (Nat.lt_irrefl _)
      · cases ek
        exact absurd (old _ ej) (Nat.lt_irrefl _)
      · exact hacc.2.2 j k T ej ek
    · exact hR h'' tk'' acc' c' (fun b o b1 b2 b3 b4 b5 e => hk'' b o b1 b2 b3 b4 b5 (oth b o b5 (hk' b o b1 b2 b3 b4 e))) hS'' hacc''
theorem zip_no_len : typeLookup (.type "zip") "__len__" = pure none := by rw [typeLookup_type, builtinLookup_eq_fast]; kernel_rfl
theorem zip_no_hint : typeLookup (.type "zip") "__length_hint__" = pure none := by rw [typeLookup_type, builtinLookup_eq_fast]; kernel_rfl
/-- list(z), z a new zip -/
theorem call_list_zipD {s : Shared} {Q : Value → Shared → Prop} (hh : A.handled = none) (S : ZipSep2 z TI TO i1 i2 fp1 fp2) (D1 : Draws prog w A.in1.in1.in1 i1 fp1 n1 P1 St1) (D2 : Draws prog w A.in1.in1.in1 i2 fp2 n2 P2 St2) (hzl : z < s.heap.objs.size) (hTI : TI < s.heap.objs.size) (f1 : ∀ b ∈ fp1, b < s.heap.objs.size) (f2 : ∀ b ∈ fp2, b < s.heap.objs.size) (hn : min n1 n2 ≤ sizeLine)
    (hst : ZSt z TI TO i1 i2 St1 St2 0 s.heap) (hz0 : IsZip s.heap z TI TO .none)
    (hQ : ∀ h' tk acc' c', (∀ b o, b ≠ z → b ≠ TO → b ≠ i1 → b ≠ i2 → s.heap.get? b = some o → h'.get? b = some o) → h'.get? s.heap.objs.size = some { cls := .type "list", dict := none, data := .seq acc' c', slots := #[] } → ZAcc z TO i1 i2 s.heap.objs.size P1 P2 h' acc' (min n1 n2) → Q (.ref s.heap.objs.size) { s with heap := h', toks := tk }) :
    wpAny (model prog w) A (call (.type "list") [.ref z]) Q E s := by
  refine callType_codes (Q₁ := fun obj s₁ => obj = .ref s.heap.objs.size ∧ s₁ = { s with heap := s.heap.push { cls := .type "list", data := .seq #[] } }) F.called_list (F.typeCall_list_1 _) F.entry_list_init (code_list_new _ ⟨rfl, rfl⟩) fun obj s₁ h₁ => ?_
  obtain ⟨rfl, rfl⟩ := h₁
  have hS : (s.heap.push { cls := .type "list", data := .seq #[] }).get? s.heap.objs.size = some { cls := .type "list", data := .seq #[] } := Heap.get?_push_size _ rfl
  refine ⟨⟨_, hS, rfl⟩, F.args_list_init_2 _ _, ?_⟩
  have hTO : TO < s.heap.objs.size := by
    obtain ⟨_, _, _, _, oO, hO⟩ := hst
    exact Heap.lt_size hO
  have ne : ∀ {b : Addr}, b < s.heap.objs.size → s.heap.objs.size ≠ b := fun h => Nat.ne_of_gt h
  have hSf1 : s.heap.objs.size ∉ fp1 := fun h => Nat.lt_irrefl _ (f1 _ h)
  have hSf2 : s.heap.objs.size ∉ fp2 := fun h => Nat.lt_irrefl _ (f2 _ h)
  have k1 : ∀ c o, c ≠ s.heap.objs.size → s.heap.get? c = some o → (s.heap.push { cls := .type "list", data := .seq #[] }).get? c = some o := fun c o _ e => Heap.get?_push_of_some _ e
  have st1 := hst.upd S D1 D2 (ne hzl) (ne hTO) (ne hTI) hSf1 hSf2 k1 ⟨_, hS⟩
  generalize hS0 : s.heap.objs.size = LS at *
  show wpAny _ A.in1.in1 (do let old ← Builtin.List.listItems (.ref LS); Builtin.List.listUpdate (.ref LS) (fun _ => #[]); letGo old.toList.reverse; Builtin.List.listExtendWith (.ref LS) (.ref z) .none) _ _ _
  refine wpAny_bind ?_
  unfold Builtin.List.listItems
  refine wpAny_bind (wpAny_seqItems hS rfl (wpAny_pure ?_))
  show wpAny _ A.in1.in1 (updateSeq LS (fun _ => #[]) >>= fun _ => letGo (#[] : Array Value).toList.reverse >>= fun _ => Builtin.List.listExtendWith (.ref LS) (.ref z) .none) _ _ _
  refine wpAny_bind (wpAny_updateSeq hS rfl ?_)
  have hS2 := Heap.get?_update_self (Obj.mapSeq (fun _ => (#[] : Array Value))) hS rfl
  have k2 : ∀ b o, b ≠ LS → (s.heap.push { cls := .type "list", data := .seq #[] }).get? b = some o → ((s.heap.push { cls := .type "list", data := .seq #[] }).update LS (Obj.mapSeq (fun _ => (#[] : Array Value)))).get? b = some o := fun b o hb e => (Heap.get?_update_other _ _ (Ne.symm hb)).trans e
  have st2 := st1.upd S D1 D2 (ne hzl) (ne hTO) (ne hTI) hSf1 hSf2 k2 ⟨_, hS2⟩
  refine wpAny_bind (wpAny_letGo ?_)
  generalize hH2 : (s.heap.push { cls := .type "list", data := .seq #[] }).update LS (Obj.mapSeq (fun _ => (#[] : Array Value))) = H2 at hS2 k2 st2
  have hz2 : ∃ oz, H2.get? z = some oz ∧ oz.cls = .type "zip" := by
    obtain ⟨q, _⟩ := st2
    rcases q with ⟨q1, _⟩ | ⟨_, _, _, q1, _⟩ <;> exact ⟨_, q1, rfl⟩
  have hTy : ∀ tk, ({ s with heap := H2, toks := tk } : Shared).TypeIs (.ref z) "zip" := fun _ => hz2
  unfold Builtin.List.listExtendWith
  refine wpAny_bind (wpAny_typeOf (hTy _) ?_)
  have h1 : Builtin.List.listSameRef (.ref LS) (.ref z) = false := by simp [Builtin.List.listSameRef, ne hzl]
  have h2 : (Value.type "zip" == Value.type "list") = false := by decide
  have h3 : (Value.type "zip" == Value.type "tuple") = false := by decide
  simp only [h1, h2, h3, Bool.or_false, Bool.false_eq_true, if_false]
  have hz3 : IsZip H2 z TI TO .none := k2 _ _ (Ne.symm (ne hzl)) (k1 _ _ (Ne.symm (ne hzl)) hz0)
  refine wpAny_bind (wpAny_pyIter_zip (s := { s with heap := H2 }) hz3 ?_)
  refine wpAny_bind (wpAny_holding ?_)
  unfold Builtin.List.listLengthHint
  refine wpAny_bind (wpAny_specialOf (hTy _) zip_no_len ?_)
  show wpAny _ _ (specialOf (Value.ref z) (Str.ofString "__length_hint__") >>= _) _ _ _
  refine wpAny_bind (wpAny_specialOf (hTy _) zip_no_hint ?_)
  refine wpAny_pure ?_
  show wpAny _ _ (rule "list.extend.makes-room" >>= fun _ => Builtin.List.listTouch (.ref LS) >>= fun _ => again (.builtin "list.extend.loop" ⟨[.ref LS, .ref z, .none], []⟩)) _ _ _
  refine wpAny_bind (wpAny_rule ?_)
  refine wpAny_bind ?_
  show wpAny _ _ (updateSeq LS (·.push .none) >>= fun _ => updateSeq LS (·.pop)) _ _ _
  refine wpAny_bind (wpAny_updateSeq hS2 rfl ?_)
  have hS3 := Heap.get?_update_self (Obj.mapSeq (·.push Value.none)) hS2 rfl
  refine wpAny_updateSeq (hz := by seq_fits) hS3 rfl ?_
  have hS4 := Heap.get?_update_self (Obj.mapSeq (·.pop)) hS3 rfl
  have k3 : ∀ b o, b ≠ LS → H2.get? b = some o → ((H2.update LS (Obj.mapSeq (·.push Value.none))).update LS (Obj.mapSeq (·.pop))).get? b = some o := fun b o hb e => (Heap.get?_update_other _ _ (Ne.symm hb)).trans ((Heap.get?_update_other _ _ (Ne.symm hb)).trans e)
  have st4 := st2.upd S D1 D2 (ne hzl) (ne hTO) (ne hTI) hSf1 hSf2 k3 ⟨_, hS4⟩
  refine wpAny_pure ⟨plainId_quiet F.plain_extend_loop _, zext_loop S D1 D2 (ne hzl) (ne hTO) (ne hTI) hSf1 hSf2 hn _ _ 0 _ _ _ rfl (Nat.zero_le _) st4 hS4 ⟨rfl, (fun j hj => absurd hj (Nat.not_lt_zero _)), fun j k T ej ek => by simp [Obj.mapSeq] at ej⟩ fun h' tk acc' c' hk hS' hacc => ?_⟩
  refine ⟨rfl, hQ h' tk acc' c' (fun b o b1 b2 b3 b4 e => ?_) hS' hacc⟩
  have bl : b ≠ LS := by
    rw [← hS0]
    exact Nat.ne_of_lt (Heap.lt_size e)
  exact hk b o b1 b2 b3 b4 bl (k3 _ _ bl (k2 _ _ bl (k1 _ _ bl e)))
end
/-- the pairs of two lists of values, each a tuple -/
def IsPr : Hp → V → V × V → Prop := fun H v d => ∃ a, v = .ref a ∧ H a = some (.tup [d.1, d.2])
theorem tst_Pr : Tst IsPr := fun _ _ _ _ e h => by
  obtain ⟨a, h1, h2⟩ := h
  exact ⟨a, h1, e _ _ h2⟩
section
variable {X : Cx} {pins : List (Addr × Obj)} {σ : L2.St} {s : Shared}
/-- new pairs are tracked, one by one -/
theorem track_pairs (fp : Addr → Prop) (hfp : ∀ b H', fp b → H' b = none → FpOk X pins H' b) : ∀ (ps : List (Addr × V × V)) (H : Hp), (ps.map (·.1)).Nodup → (∀ p ∈ ps, fp p.1 ∧ H p.1 = none ∧ ∃ u1 u2, IsTupOf2 s.heap p.1 u1 u2 ∧ RelV p.2.1 u1 ∧ RelV p.2.2 u2) → Inv X pins σ H s →
    ∃ H', Inv X pins σ H' s ∧ Ex H H' ∧ (∀ p ∈ ps, H' p.1 = some (.tup [p.2.1, p.2.2])) ∧ ∀ b, b ∉ ps.map (·.1) → H' b = H b
  | [], H, _, _, I => ⟨H, I, Ex.refl H, (fun _ h => nomatch h), fun _ _ => rfl⟩
  | p :: ps, H, nd, hp, I => by
    rw [List.map_cons, List.nodup_cons] at nd
    obtain ⟨h1, h2, u1, u2, h3, h4, h5⟩ := hp p (List.mem_cons_self ..)
    have new : ObjOk X.prog X.w (upd H p.1 (.tup [p.2.1, p.2.2])) s.heap p.1 (.tup [p.2.1, p.2.2]) := ⟨by show 2 ≤ sizeLine; decide, [u1, u2], .cons h4 (.cons h5 .nil), ⟨_, h3, rfl, _, rfl⟩⟩
    have I1 : Inv X pins σ (upd H p.1 (.tup [p.2.1, p.2.2])) { s with heap := s.heap, toks := s.toks } := I.take (fun b ob _ e => e) (hfp p.1 H h1 h2) new
    obtain ⟨H', I', e', q1, q2⟩ := track_pairs fp hfp ps (upd H p.1 (.tup [p.2.1, p.2.2])) nd.2 (fun r hr => by
      obtain ⟨a1, a2, a3⟩ := hp r (List.mem_cons_of_mem _ hr)
      refine ⟨a1, ?_, a3⟩
      rw [upd_ne (fun e => nd.1 (by rw [← e]; exact List.mem_map_of_mem hr))]
      exact a2) I1
    refine ⟨H', I', (Ex.new h2).trans e', fun r hr => ?_, fun b hb => ?_⟩
    · rcases List.mem_cons.mp hr with rfl | hr
      · rw [q2 _ nd.1, upd_same]
      · exact q1 r hr
    · rw [List.map_cons, List.mem_cons, not_or] at hb
      rw [q2 b hb.2, upd_ne hb.1]
def tListZip (K : PySem.W.Frag) (ta tb : TE) : TE := fun σ H Q => ta σ H fun x H1 => tb σ H1 fun y H2 => ∃ a b xs ys, x = .ref a ∧ y = .ref b ∧ SqL K H2 a xs ∧ SqT K H2 b ys ∧ xs.length ≤ 1000 ∧ RL IsPr (xs.zip ys) H2 Q
end
theorem ad_ne {m n : Nat} (h : m < n ∨ n < m) : (m : Addr) ≠ (n : Addr) := by
  intro e
  have e : m = n := e
  omega
theorem zsep (B a b : Nat) (ha : a < B) (hb : b < B) : ZipSep2 (B + 4) (B + 2) (B + 3) B (B + 1) [B, a] [B + 1, b] := by
  have n1 : ∀ {x : Nat} {y z : Nat}, (x < y ∨ y < x) → (x < z ∨ z < x) → (x : Addr) ∉ ([y, z] : List Addr) := fun h1 h2 h => by
    rcases List.mem_cons.mp h with e | e
    · exact ad_ne h1 e
    · exact ad_ne h2 (List.mem_singleton.mp e)
  exact ⟨ad_ne (by omega), ad_ne (by omega), ad_ne (by omega), ad_ne (by omega), List.mem_cons_self .., n1 (by omega) (by omega), n1 (by omega) (by omega), ad_ne (by omega), List.mem_cons_self .., n1 (by omega) (by omega), n1 (by omega) (by omega), n1 (by omega) (by omega), n1 (by omega) (by omega)⟩
theorem zlt {B a n : Nat} (ha : a < B) (hn : n = B + 5) {y c : Nat} (hy : y ≤ B + 1) (h : (c : Addr) ∈ ([y, a] : List Addr)) : c < n := by
  rcases List.mem_cons.mp h with e | e
  · have e : c = y := e
    omega
  · have e : c = a := List.mem_singleton.mp e
    omega
theorem pe_listZip {X : Cx} {e1 e2 : Expr} {ta tb : TE} {p p2 pos pos2 : Pos} (K : PySem.W.Frag) (hc : X.calm = true) (hg : Gl X "list") (hm : X.mg "list" = none) (hg2 : Gl X "zip") (hm2 : X.mg "zip" = none) (h1 : PE X e1 ta) (h2 : PE X e2 tb)
    (na : starEach [e1, e2] X.env = (false, eval e1 X.env) :: starEach [e2] X.env := by rfl) (nb : starEach [e2] X.env = (false, eval e2 X.env) :: starEach [] X.env := by rfl)
    (nz : starEach [.Call (.Name "zip" p2) [e1, e2] [] pos2] X.env = (false, eval (.Call (.Name "zip" p2) [e1, e2] [] pos2) X.env) :: starEach [] X.env := by rfl) (hpl : (backTo pos2 (starEach [e2] X.env)).any (·.1) = false := by rfl) (e : X.K = K := by rfl) :
    PE X (.Call (.Name "list" p) [.Call (.Name "zip" p2) [e1, e2] [] pos2] [] pos) (tListZip K ta tb) := by
  subst e
  refine ⟨fun pins s σ H Q I h => ?_⟩
  refine Call_ (ld_blt I hg hm boot_list (PyProof.Rows.callWith_type1 (args_cons (Call_ (ld_blt I hg2 hm2 PyProof.Rows.boot_zip (PyProof.Rows.callWith_type1 (args_cons (thn (h1.run pins s σ H _ I h) fun u1 s1 ⟨x, H1, I1, r1, q1⟩ => args_cons (thn (h2.run pins s1 σ H1 _ I1 q1) fun u2 s2 ⟨y, H2, I2, r2, q2⟩ => args_nil ?_) nb) na) na hpl))) nz) nz))
  obtain ⟨a, b, xs, ys, rfl, rfl, hqx, hqy, hxl, hQ⟩ := q2
  obtain rfl : u1 = Value.ref a := r1
  obtain rfl : u2 = Value.ref b := r2
  obtain ⟨its, rv, pl, _⟩ := I2.list hqx
  obtain ⟨its2, rv2, pl2, _⟩ := I2.tuple hqy
  have hla : a < s2.heap.objs.size := pl.lt
  have hlb : b < s2.heap.objs.size := by
    obtain ⟨o, ho, _⟩ := pl2
    exact Heap.lt_size ho
  have hit2 : s2.heap.IsTuple b its2.toArray := pl2
  refine zip_begins2 (begins_list a its.toArray) (begins_tuple b its2.toArray) pl.isList hit2 fun h' hz hTI hTO ho1 ho2 hsz hk => args_nil ?_
  generalize hB : s2.heap.objs.size = B at *
  have hh := I2.ok.hd hc
  have D1 := Draws.list (prog := X.prog) (w := X.w) (A := X.A.in1.in1.in1) hh B a (Nat.ne_of_lt hla) its.toArray
  have D2 := Draws.tuple (prog := X.prog) (w := X.w) (A := X.A.in1.in1.in1) hh (B + 1) b (Nat.ne_of_lt (Nat.lt_succ_of_lt hlb)) its2.toArray
  have I3 : Inv X pins σ H2 { s2 with heap := h' } := I2.kept (t' := s2.toks) hk
  have S := zsep B a b hla hlb
  have hlen : min its.toArray.size its2.toArray.size ≤ 1000 := by
    have := rv.length
    simp
    omega
  have st0 : ZSt (B + 4) (B + 2) (B + 3) B (B + 1) (fun i h => h.IsListIter B a i ∧ h.IsList a its.toArray) (fun i h => h.IsTupleIter (B + 1) b i ∧ h.IsTuple b its2.toArray) 0 h' :=
    ⟨.inl ⟨hz, _, _, hTO⟩, hTI, ⟨⟨_, ho1, rfl, rfl⟩, pl.isList.at fun o e => hk _ _ e⟩, ⟨⟨_, ho2, rfl, rfl⟩, hit2.at fun o e => hk _ _ e⟩, _, hTO⟩
  refine call_list_zipD (s := { s2 with heap := h' }) (z := B + 4) (TI := B + 2) (TO := B + 3) (i1 := B) (i2 := B + 1) hh S D1 D2 (by rw [hsz]; exact Nat.lt_succ_self _) (by rw [hsz]; exact Nat.add_lt_add_left (by decide) _) (fun c hc => zlt hla hsz (Nat.le_succ _) hc) (fun c hc => zlt hlb hsz (Nat.le_refl _) hc) (sz (by omega)) st0 hz fun h'' tk acc c hkk hLS hacc => ?_
  have hfp : ∀ (b : Addr) (H' : Hp), B ≤ b → H' b = none → FpOk X pins H' b := fun b H' hb hn => I2.fpOk (by rw [hB]; exact hb) hn
  have hfr : ∀ (b : Addr), B ≤ b → H2 b = none := fun b hb => I2.hok.fresh (by rw [hB]; exact hb)
  have I4 : Inv X pins σ H2 { { s2 with heap := h' } with heap := h'', toks := tk } := by
    refine I3.turnedL (t' := tk) (ch := [B + 4, B + 2, B + 3, B, B + 1]) (fun b o hb e => hkk b o ?_ ?_ ?_ ?_ e) fun b hb => ?_
    · exact fun e => hb (by rw [e]; simp)
    · exact fun e => hb (by rw [e]; simp)
    · exact fun e => hb (by rw [e]; simp)
    · exact fun e => hb (by rw [e]; simp)
    · have hle : B ≤ b := by
        have e' : b = B + 4 ∨ b = B + 2 ∨ b = B + 3 ∨ b = B ∨ b = B + 1 := by simpa using hb
        rcases e' with e | e | e | e | e <;> rw [e] <;> first | exact Nat.le_refl _ | exact Nat.le_add_right _ _
      exact hfp b H2 hle (hfr b hle)
  rw [hsz] at hLS hacc ⊢
  generalize hn : min its.toArray.size its2.toArray.size = n at *
  let Tj : Nat → Addr := fun j => match acc[j]? with | some (.ref T) => T | _ => 0
  obtain ⟨ha1, ha2, ha3⟩ := hacc
  have hT : ∀ j, j < n → ∃ x1 x2, acc[j]? = some (.ref (Tj j)) ∧ IsTupOf2 h'' (Tj j) x1 x2 ∧ its.toArray[j]? = some x1 ∧ its2.toArray[j]? = some x2 ∧ B ≤ Tj j ∧ Tj j ≠ B + 5 := fun j hj => by
    obtain ⟨T, x1, x2, e1, e2, e3, e4, _, _, _, _, t5⟩ := ha2 j hj
    have eT : Tj j = T := by
      show (match acc[j]? with | some (.ref T) => T | _ => 0) = T
      rw [e1]
    rw [eT]
    exact ⟨x1, x2, e1, e2, e3, e4, Nat.le_trans (Nat.le_add_right B 5) (Nat.le_of_lt t5), Nat.ne_of_gt t5⟩
  have hxn : n = min xs.length ys.length := by
    rw [← hn, rv.length, rv2.length]
    simp
  have hzip : xs.zip ys = (List.range n).map fun j => (xs.getD j .non, ys.getD j .non) := by
    apply List.ext_getElem?
    intro j
    rw [List.getElem?_map]
    by_cases hj : j < n
    · have hjx : j < xs.length := by omega
      have hjy : j < ys.length := by omega
      rw [List.getElem?_range hj, List.getElem?_zip_eq_some (z := (xs[j], ys[j])) |>.mpr ⟨List.getElem?_eq_getElem hjx, List.getElem?_eq_getElem hjy⟩]
      simp [List.getD, List.getElem?_eq_getElem hjx, List.getElem?_eq_getElem hjy]
    · rw [List.getElem?_eq_none (by rw [List.length_zip]; omega), List.getElem?_eq_none (by rw [List.length_range]; omega)]
      rfl
  have haccl : acc.toList = (List.range n).map fun j => Value.ref (Tj j) := by
    apply List.ext_getElem?
    intro j
    rw [List.getElem?_map, Array.getElem?_toList]
    by_cases hj : j < n
    · obtain ⟨_, _, e1, _⟩ := hT j hj
      rw [List.getElem?_range hj, e1]
      rfl
    · rw [Array.getElem?_eq_none (by omega), List.getElem?_eq_none (by rw [List.length_range]; omega)]
      rfl
  obtain ⟨H5, I5, e5, q5, r5⟩ := track_pairs (fun b => B ≤ b) hfp ((List.range n).map fun j => (Tj j, xs.getD j .non, ys.getD j .non)) H2 (by
      rw [List.map_map, List.Nodup, List.pairwise_map]
      refine List.Pairwise.imp_of_mem (fun {i j} hi hj ne e => ne ?_) List.nodup_range
      have e : Tj i = Tj j := e
      obtain ⟨_, _, e1, _⟩ := hT i (List.mem_range.mp hi)
      obtain ⟨_, _, e2, _⟩ := hT j (List.mem_range.mp hj)
      rw [← e] at e2
      exact ha3 i j _ e1 e2) (fun p hp => by
      obtain ⟨j, hj, rfl⟩ := List.mem_map.mp hp
      have hj := List.mem_range.mp hj
      obtain ⟨x1, x2, e1, e2, e3, e4, t1, t2⟩ := hT j hj
      have hjx : j < xs.length := by omega
      have hjy : j < ys.length := by omega
      obtain ⟨u1, g1, g2⟩ := rv.get (List.getElem?_eq_getElem hjx)
      obtain ⟨u2, g3, g4⟩ := rv2.get (List.getElem?_eq_getElem hjy)
      have f1 : u1 = x1 := Option.some.inj (g1.symm.trans (by simpa using e3))
      have f2 : u2 = x2 := Option.some.inj (g3.symm.trans (by simpa using e4))
      refine ⟨t1, hfr _ t1, x1, x2, e2, ?_, ?_⟩
      · simp only [List.getD, List.getElem?_eq_getElem hjx, Option.getD_some]
        rw [← f1]
        exact g2
      · simp only [List.getD, List.getElem?_eq_getElem hjy, Option.getD_some]
        rw [← f2]
        exact g4) I4
  have hLn : H5 (B + 5) = none := by
    rw [r5]
    · exact hfr _ (Nat.le_add_right _ _)
    · intro h
      rw [List.map_map] at h
      obtain ⟨j, hj, e⟩ := List.mem_map.mp h
      obtain ⟨_, _, _, _, _, _, _, t2⟩ := hT j (List.mem_range.mp hj)
      exact t2 e
  have hvals : Vals ((List.range n).map fun j => V.ref (Tj j)) acc.toList := by
    rw [haccl]
    exact vals_maps _ _ _ fun j _ => rfl
  have new : ObjOk X.prog X.w (upd H5 (B + 5) (.lst ((List.range n).map fun j => V.ref (Tj j)))) h'' (B + 5) (.lst ((List.range n).map fun j => V.ref (Tj j))) :=
    ⟨by rw [List.length_map, List.length_range]; exact sz (by omega), acc.toList, c, hvals, by simpa using hLS⟩
  have I6 := I5.take (t' := tk) (o := .lst ((List.range n).map fun j => V.ref (Tj j))) (fun b ob _ e => e) (hfp (B + 5) H5 (Nat.le_add_right _ _) hLn) new
  refine ⟨.ref (B + 5), _, I6, rfl, hQ (B + 5) _ (hfr _ (Nat.le_add_right _ _)) (e5.trans (Ex.new hLn)) ⟨_, upd_same, ?_⟩⟩
  rw [hzip]
  have e6 : Ex H5 (upd H5 (B + 5) (.lst ((List.range n).map fun j => V.ref (Tj j)))) := Ex.new hLn
  have all : ∀ l : List Nat, (∀ j ∈ l, j < n) → All IsPr (upd H5 (B + 5) (.lst ((List.range n).map fun j => V.ref (Tj j)))) (l.map fun j => V.ref (Tj j)) (l.map fun j => (xs.getD j .non, ys.getD j .non)) := fun l => by
    induction l with
    | nil => intro _; exact .nil
    | cons j l ih =>
      intro h
      refine .cons ⟨Tj j, rfl, e6 _ _ (q5 _ (List.mem_map_of_mem (List.mem_range.mpr (h j (List.mem_cons_self ..)))))⟩ (ih fun k hk => h k (List.mem_cons_of_mem _ hk))
  exact all _ fun j hj => List.mem_range.mp hj
end K49

namespace K49
open PySem PySem.Spec PyProof.Rows L2
open C8 (Cal Met Mak pe_c pe_mk pe_mt pe_mt0 pe_gc)
open Evl (Ex)
def spInteger : Sp := fun vs H Q _ => ∃ i : Int, vs = [.int i] ∧ Q (.bl true) H
def spList : Sp := fun vs H Q _ => ∃ a : Addr, vs = [.ref a] ∧ IsSeq H a ∧ RV (.bl true) H Q
def spPoint : Sp := fun vs H Q _ => ∃ (v : V) (k : Int) (p : List Int), vs = [v, .int k] ∧ IsP H v p ∧ (p.length : Int) = k ∧ p.length ≤ 100 ∧ RV (.bl true) H Q
def spPlaces : Sp := fun vs H Q _ => ∃ k : Int, vs = [.int k] ∧ 1 ≤ k ∧ k ≤ 3 ∧ Q .non H
def spCheckPoint : Sp := fun vs H Q _ => ∃ (v : V) (k : Int) (p : List Int), vs = [v, .int k] ∧ IsP H v p ∧ (p.length : Int) = k ∧ p.length ≤ 100 ∧ RV .non H Q
section
variable {P : Program} {w : World} {K : PySem.W.Frag} {mg : Str → Option Value} {base : Heap}
theorem isi_int_int {K : PySem.W.Frag} : PySem.W.kitOne K (.type "int") (.type "int") = some true := kit_ty (by decide +kernel)
theorem isi_int_bool {K : PySem.W.Frag} : PySem.W.kitOne K (.type "int") (.type "bool") = some false := kit_ty (by decide +kernel)
theorem isi_seq {K : PySem.W.Frag} {H : Hp} {a : Addr} (h : IsSeq H a) : ∃ t, TyX K H (.ref a) t ∧ PySem.W.kitAny K t [.type "list", .type "tuple"] = some true := by
  rcases h with ⟨xs, h⟩ | ⟨xs, h⟩
  · exact ⟨_, .base (.lst h), kitAny_cons (b := true) (kit_ty (by decide +kernel)) (fun h => by cases h) (fun _ => rfl)⟩
  · exact ⟨_, .base (.tup h), kitAny_cons (b := false) (kit_ty (by decide +kernel)) (fun _ => kitAny_cons (b := true) (kit_ty (by decide +kernel)) (fun h => by cases h) (fun _ => rfl)) (fun h => by cases h)⟩
theorem sc_is_integer : FnScope ["thing"] ["thing"] (defScope s_is_integer) := C8.fnScope_by (by decide +kernel)
theorem cal_is_integer (T : Txt mg) (D : Dfn K mg "is_integer" s_is_integer ["thing"] []) : Cal P w K mg base 1 "is_integer" (spInteger) [] := by
  have nd := sc_is_integer.nd
  refine D.cal sc_is_integer (fun vs H Q E h => by obtain ⟨i, rfl, hQ⟩ := h; rfl) (fun f cdv A outer s H vs Q E hr h => ?_)
  obtain ⟨i, rfl, hQ⟩ := h
  refine ⟨_, (pss_one (ps_ret (pe_and (pe_callB (kisi K) rfl T.b_isinstance (by decide +kernel) (pa_cons (pv 0) (pa_cons (pe_bltn (v := .ty "int") rfl T.b_int (by decide +kernel) rfl) pa_nil))) (pe_one (pe_not (pe_callB (kisi K) rfl T.b_isinstance (by decide +kernel) (pa_cons (pv 0) (pa_cons (pe_bltn (v := .ty "bool") rfl T.b_bool (by decide +kernel) rfl) pa_nil)))))))), ?_⟩
  exact ⟨_, rfl, _, _, _, _, _, rfl, .ty _, .base (.int _), isi_int_int, _, rfl, _, rfl, _, _, _, _, _, rfl, .ty _, .base (.int _), isi_int_bool, _, rfl, hQ⟩
theorem sc_is_list : FnScope ["thing"] ["thing"] (defScope s_is_list) := C8.fnScope_by (by decide +kernel)
theorem cal_is_list (T : Txt mg) (D : Dfn K mg "is_list" s_is_list ["thing"] []) : Cal P w K mg base 1 "is_list" (spList) [] := by
  have nd := sc_is_list.nd
  refine D.cal sc_is_list (fun vs H Q E h => by obtain ⟨a, rfl, hs, hQ⟩ := h; rfl) (fun f cdv A outer s H vs Q E hr h => ?_)
  obtain ⟨a, rfl, hs, hQ⟩ := h
  refine ⟨_, (pss_one (ps_ret (pe_callB (kisiT K) rfl T.b_isinstance (by decide +kernel) (pa_cons (pv 0) (pa_cons (pe_tup (pa_cons (pe_bltn (v := .ty "list") rfl T.b_list (by decide +kernel) rfl) (pa_cons (pe_bltn (v := .ty "tuple") rfl T.b_tuple (by decide +kernel) rfl) pa_nil))) pa_nil))))), ?_⟩
  refine ⟨_, rfl, by show 2 ≤ sizeLine; decide, fun p hp => ?_⟩
  obtain ⟨t, h1, h2⟩ := isi_seq (K := K) (hs.mono (Ex.new (o := .tup [.ty "list", .ty "tuple"]) hp))
  exact ⟨_, p, _, t, [.type "list", .type "tuple"], true, rfl, upd_same, .cons (.ty _) (.cons (.ty _) .nil), h1, h2, hQ _ (Ex.new hp)⟩
theorem sc_is_point : FnScope ["thing", "places", "entry"] ["thing", "places"] (defScope s_is_point) := C8.fnScope_by (by decide +kernel)
theorem cal_is_point (T : Txt mg) (D : Dfn K mg "is_point" s_is_point ["thing", "places"] [])
    (C_is_list : Cal P w K mg base 1 "is_list" spList [])
    (C_is_integer : Cal P w K mg base 1 "is_integer" spInteger []) : Cal P w K mg base 2 "is_point" (spPoint) [] := by
  have nd := sc_is_point.nd
  refine D.cal sc_is_point (fun vs H Q E h => by obtain ⟨v, k, p, rfl, hp, hk, hl, hQ⟩ := h; rfl) (fun f cdv A outer s H vs Q E hr h => ?_)
  obtain ⟨v, k, p, rfl, hp, hk, hl, hQ⟩ := h
  refine ⟨_, (pss_one (ps_ret (pe_and (pe_c C_is_list hr (by decide) rfl (pa_cons (pv 0) pa_nil)) (pe_and (pe_cmpR op_eq (pe_callB (klen K) rfl T.b_len PySem.boot_len (pa_cons (pv 0) pa_nil)) (pv 1) (nomark _)) (pe_one (pe_callB (kall K rfl) rfl T.b_all (by decide +kernel) (pa_cons (pe_lc rfl nd (kpi_tup K (pv 0)) (blkOk_by (own := [("entry", 2)]) (N := ["thing", "places", "entry"]) (sc := defScope s_is_point) (by decide +kernel)) (fun _ _ _ _ _ => (pg_name (i := 2) nd rfl (Or.inl rfl))) (fun _ _ _ _ _ => pts_nil) (fun _ _ _ _ _ => (pe_c C_is_integer hr (by decide) rfl (pa_cons (pv 2) pa_nil)))) pa_nil))))))), ?_⟩
  obtain ⟨a, rfl, ha⟩ := hp
  refine ⟨_, rfl, a, rfl, .inr ⟨_, ha⟩, fun H1 e1 => ⟨true, rfl, iteT ?_⟩⟩
  have ha1 := e1 _ _ ha
  refine ⟨_, rfl, ⟨a, _, rfl, .inr (SqT.of ha1), _, rfl, rfl, true, congrArg V.bl (decide_eq_true (congrArg V.int (by rw [List.length_map]; exact hk))), iteT ?_⟩⟩
  refine ⟨_, rfl, a, rfl, ⟨_, SqT.of ha1⟩, fun D hD => lc_data p (fun _ => true) IsBl (fun _ => true) (Y := YAt (p.map V.int)) (G := fun H => SqT K H a (p.map V.int)) (by have z := walk_tup (K := K) (a := a) (xs := p.map V.int); rw [List.length_map] at z; exact z) tst_Bl (by omega) hD (fun H e => SqT.of (e _ _ ha1)) (fun i x H H' h => h.1 ▸ Ex.refl H) (fun i d x H H' hd e hy Ky Kn k1 k2 => ?_) (fun H e hL => ?_)⟩
  · obtain ⟨rfl, hx⟩ := hy
    rw [List.getElem?_map, hd] at hx
    obtain rfl := Option.some.inj hx
    exact ⟨rfl, _, rfl, d, rfl, k1 rfl _ _ (Ex.refl _) rfl⟩
  · have hL' := ls_Bl hL
    rw [filter_all] at hL'
    refine ⟨D, _, rfl, SqL.of hL', ?_⟩
    have ev : (p.map fun _ => true).all id = true := by simp
    rw [ev]
    exact hQ H (e1.trans e)
theorem sc_check_places : FnScope ["places"] ["places"] (defScope s_check_places) := C8.fnScope_by (by decide +kernel)
theorem cal_check_places (T : Txt mg) (D : Dfn K mg "check_places" s_check_places ["places"] [])
    (C_is_integer : Cal P w K mg base 1 "is_integer" spInteger []) : Cal P w K mg base 2 "check_places" (spPlaces) [] := by
  have nd := sc_check_places.nd
  refine D.cal sc_check_places (fun vs H Q E h => by obtain ⟨k, rfl, h1, h2, hQ⟩ := h; rfl) (fun f cdv A outer s H vs Q E hr h => ?_)
  obtain ⟨k, rfl, h1, h2, hQ⟩ := h
  refine ⟨_, (pss_one (ps_if (PW.pt (pw_or (pt_not (pt_val (pe_c C_is_integer hr (by decide) rfl (pa_cons (pv 0) pa_nil)))) (pw_or1 (pt_not (pt_chain op_le op_le pe_int (pv 0) (pe_gc rfl T.MOST_PLACES)))))) pss_never pss_nil)), ?_⟩
  refine ⟨_, rfl, k, rfl, true, rfl, iteF ?_⟩
  refine ⟨_, rfl, _, _, rfl, rfl, true, congrArg V.bl (decide_eq_true h1), iteT ⟨_, _, rfl, rfl, true, congrArg V.bl (decide_eq_true h2), iteF hQ⟩⟩
theorem sc_check_point : FnScope ["point", "places"] ["point", "places"] (defScope s_check_point) := C8.fnScope_by (by decide +kernel)
theorem cal_check_point (T : Txt mg) (D : Dfn K mg "check_point" s_check_point ["point", "places"] [])
    (C_is_point : Cal P w K mg base 2 "is_point" spPoint []) : Cal P w K mg base 3 "check_point" (spCheckPoint) [] := by
  have nd := sc_check_point.nd
  refine D.cal sc_check_point (fun vs H Q E h => by obtain ⟨v, k, p, rfl, hp, hk, hl, hQ⟩ := h; rfl) (fun f cdv A outer s H vs Q E hr h => ?_)
  obtain ⟨v, k, p, rfl, hp, hk, hl, hQ⟩ := h
  refine ⟨_, (pss_one (ps_if (pt_not (pt_val (pe_c C_is_point hr (by decide) rfl (pa_cons (pv 0) (pa_cons (pv 1) pa_nil))))) pss_never pss_nil)), ?_⟩
  exact ⟨_, rfl, _, rfl, v, k, p, rfl, hp, hk, hl, fun H1 e1 => ⟨true, rfl, iteF (hQ H1 e1)⟩⟩
end
end K49

namespace K49
open PySem PySem.Spec PyProof.Rows L2
open C8 (Cal Met Mak pe_c pe_mk pe_mt pe_mt0 pe_gc)
open Evl (Ex)
/-- examples of points of k places -/
def Exs (k : Int) (rows : List (List Int × Bool)) : Prop := rows.length ≤ 100 ∧ ∀ d ∈ rows, (d.1.length : Int) = k
theorem Exs.at {k : Int} {rows : List (List Int × Bool)} (h : Exs k rows) {i : Nat} {d : List Int × Bool} (e : rows[i]? = some d) : (d.1.length : Int) = k := h.2 d (List.mem_of_getElem? e)
def spExample : Sp := fun vs H Q _ => ∃ (v : V) (k : Int) (d : List Int × Bool), vs = [v, .int k] ∧ IsEx H v d ∧ (d.1.length : Int) = k ∧ k ≤ 100 ∧ RV (.bl true) H Q
def spRows : Sp := fun vs H Q _ => ∃ (a : Addr) (k : Int) (rows : List (List Int × Bool)), vs = [.ref a, .int k] ∧ Ls IsEx H a rows ∧ Exs k rows ∧ k ≤ 100 ∧ RL IsEx rows H Q
/-- a sample stands at a -/
def SampleAt (K : PySem.W.Frag) (C : Addr) (H : Hp) (a : Addr) (k : Int) (rows : List (List Int × Bool)) : Prop := ∃ dx fs ra, H a = some (.ins C dx fs) ∧ fs.lookup ("places" : Str) = some (.int k) ∧ fs.lookup ("rows" : Str) = some (.ref ra) ∧ Ls IsEx H ra rows ∧
  fs.lookup ("examples" : Str) = none
def spSampleInit (K : PySem.W.Frag) (C : Addr) : Sp := fun vs H Q _ => ∃ (x dx : Addr) (k : Int) (a : Addr) (rows : List (List Int × Bool)), vs = [.ref x, .int k, .ref a] ∧ H x = some (.ins C dx []) ∧ 1 ≤ k ∧ k ≤ 3 ∧ Ls IsEx H a rows ∧ Exs k rows ∧
  ∀ H', (∀ b o, H b = some o → b ≠ x → H' b = some o) → SampleAt K C H' x k rows → Q .non H'
def spExamples (K : PySem.W.Frag) (C : Addr) : Sp := fun vs H Q _ => ∃ (x : Addr) (k : Int) (rows : List (List Int × Bool)), vs = [.ref x] ∧ SampleAt K C H x k rows ∧ RL IsEx rows H Q
/-- the rows of a view -/
def viewOf (rows : List (List Int × Bool)) : List (Int × List Int × Bool) := rows.zipIdx.map fun d => ((d.2 : Int), d.1.1, d.1.2)
def spView (K : PySem.W.Frag) (C : Addr) : Sp := fun vs H Q _ => ∃ (x : Addr) (k : Int) (rows : List (List Int × Bool)), vs = [.ref x, .non] ∧ SampleAt K C H x k rows ∧ rows.length ≤ 100 ∧ RL IsVw (viewOf rows) H Q
theorem isi_bool_bool {K : PySem.W.Frag} : PySem.W.kitOne K (.type "bool") (.type "bool") = some true := kit_ty (by decide +kernel)
section
variable {P : Program} {w : World} {K : PySem.W.Frag} {mg : Str → Option Value} {base : Heap}
theorem sc_is_example : FnScope ["thing", "places"] ["thing", "places"] (defScope s_is_example) := C8.fnScope_by (by decide +kernel)
theorem cal_is_example (T : Txt mg) (D : Dfn K mg "is_example" s_is_example ["thing", "places"] [])
    (C_is_list : Cal P w K mg base 1 "is_list" spList [])
    (C_is_point : Cal P w K mg base 2 "is_point" spPoint []) : Cal P w K mg base 3 "is_example" (spExample) [] := by
  have nd := sc_is_example.nd
  refine D.cal sc_is_example (fun vs H Q E h => by obtain ⟨v, k, d, rfl, hv, hk, hl, hQ⟩ := h; rfl) (fun f cdv A outer s H vs Q E hr h => ?_)
  obtain ⟨v, k, d, rfl, hv, hk, hl, hQ⟩ := h
  refine ⟨_, (pss_one (ps_ret (pe_and (pe_c C_is_list hr (by decide) rfl (pa_cons (pv 0) pa_nil)) (pe_and (pe_cmpR op_eq (pe_callB (klen K) rfl T.b_len PySem.boot_len (pa_cons (pv 0) pa_nil)) pe_int (nomark _)) (pe_and (pe_c C_is_point hr (by decide) rfl (pa_cons (pe_ix (kix_tup K) (pv 0) pe_int (fun _ _ => rfl)) (pa_cons (pv 1) pa_nil))) (pe_one (pe_callB (kisi K) rfl T.b_isinstance (by decide +kernel) (pa_cons (pe_ix (kix_tup K) (pv 0) pe_int (fun _ _ => rfl)) (pa_cons (pe_bltn (v := .ty "bool") rfl T.b_bool (by decide +kernel) rfl) pa_nil))))))))), ?_⟩
  obtain ⟨a, x, rfl, ha, hx⟩ := hv
  refine ⟨_, rfl, a, rfl, .inr ⟨_, ha⟩, fun H1 e1 => ⟨true, rfl, iteT ?_⟩⟩
  have ha1 := e1 _ _ ha
  refine ⟨_, rfl, ⟨a, _, rfl, .inr (SqT.of ha1), rfl, true, rfl, iteT ?_⟩⟩
  refine ⟨_, rfl, a, _, 0, x, rfl, rfl, SqT.of ha1, rfl, _, rfl, x, k, d.1, rfl, tst_P _ _ _ _ (Ex.tex e1) hx, hk, by omega, fun H2 e2 => ⟨true, rfl, iteT ?_⟩⟩
  exact ⟨_, rfl, a, _, 1, _, rfl, rfl, SqT.of (e2 _ _ ha1), rfl, _, _, _, _, _, rfl, .ty _, .base (.bl _), isi_bool_bool, hQ H2 (e1.trans e2)⟩
theorem sc_checked_rows : FnScope ["examples", "places", "index", "thing", "point", "label"] ["examples", "places"] (defScope s_checked_rows) := C8.fnScope_by (by decide +kernel)
theorem cal_checked_rows (T : Txt mg) (D : Dfn K mg "checked_rows" s_checked_rows ["examples", "places"] [])
    (C_is_list : Cal P w K mg base 1 "is_list" spList [])
    (C_is_example : Cal P w K mg base 3 "is_example" spExample []) : Cal P w K mg base 4 "checked_rows" (spRows) [] := by
  have nd := sc_checked_rows.nd
  refine D.cal sc_checked_rows (fun vs H Q E h => by obtain ⟨a, k, rows, rfl, hv, hr1, hk, hQ⟩ := h; rfl) (fun f cdv A outer s H vs Q E hr h => ?_)
  obtain ⟨a, k, rows, rfl, hv, hr1, hk, hQ⟩ := h
  refine ⟨_, (pss_cons (ps_if (pt_not (pt_val (pe_c C_is_list hr (by decide) rfl (pa_cons (pv 0) pa_nil)))) pss_never pss_nil)
      (pss_cons (ps_for PassesOwn.never rfl (kpi_enum K rfl T.b_enumerate (pa_cons (pv 0) pa_nil)) (kpg_tup K 2 rfl (pgs_cons (pg_name (i := 2) nd rfl (Or.inl rfl)) (pgs_cons (pg_name (i := 3) nd rfl (Or.inl rfl)) pgs_nil))) (pss_one (ps_if (pt_not (pt_val (pe_c C_is_example hr (by decide) rfl (pa_cons (pv 3) (pa_cons (pv 1) pa_nil))))) pss_never pss_nil)))
      (pss_one (ps_ret (pe_lc rfl nd (kpi_list K (pv 0)) (blkOk_by (own := [("point", 4), ("label", 5)]) (N := ["examples", "places", "index", "thing", "point", "label"]) (sc := defScope s_checked_rows) (by decide +kernel)) (fun _ _ _ _ _ => (kpg_tup K 2 rfl (pgs_cons (pg_name (i := 4) nd rfl (Or.inl rfl)) (pgs_cons (pg_name (i := 5) nd rfl (Or.inl rfl)) pgs_nil)))) (fun _ _ _ _ _ => pts_nil) (fun _ _ _ _ _ => (pe_tup (pa_cons (kpe_tupleOf K rfl T.b_tuple (pv 4)) (pa_cons (pv 5) pa_nil))))))))), ?_⟩
  obtain ⟨xs, ha, hx⟩ := hv
  refine ⟨_, rfl, a, rfl, .inl ⟨_, ha⟩, fun H1 e1 => ⟨true, rfl, iteF ?_⟩⟩
  have ha1 := e1 _ _ ha
  have hx1 := hx.mono tst_Ex.sst e1
  refine ⟨_, rfl, a, xs, rfl, SqL.of ha1, for_it walk_enum (fun i σ H' => Ex H1 H' ∧ ∃ x1 x2 x3 x4, σ = [some (.ref a), some (.int k), x1, x2, x3, x4]) ⟨Ex.refl _, _, _, _, _, rfl⟩ (fun i σ H' _ h => SqL.of (h.1 _ _ ha1)) (fun i x σ H' H2 hi h hy => ?_) (fun σ H' h => ?_)⟩
  · obtain ⟨e, x1, x2, x3, x4, rfl⟩ := h
    obtain ⟨T1, y1, y2, rfl, hT, rfl, q1, q2⟩ := hy
    obtain rfl := Option.some.inj q1
    obtain ⟨d, hd, hr⟩ := paired_of hx1 q2
    have e2 := e.trans (Ex.new (o := .tup [.int (i : Nat), y2]) hT)
    refine ⟨T1, _, rfl, SqT.of upd_same, rfl, _, _, rfl, _, _, rfl, rfl, ?_⟩
    exact ⟨_, rfl, _, rfl, y2, k, d, rfl, tst_Ex _ _ _ _ (Ex.tex e2) hr, hr1.at hd, hk, fun H3 e3 => ⟨true, rfl, iteF ⟨e2.trans e3, _, _, _, _, rfl⟩⟩⟩
  · obtain ⟨e, x1, x2, x3, x4, rfl⟩ := h
    have ha2 := e _ _ ha1
    refine ⟨_, rfl, a, rfl, ⟨_, SqL.of ha2⟩, fun D hD => lc_data rows (fun _ => true) IsEx (fun d => d) (Y := YAt xs) (G := fun H => SqL K H a xs) (by have z := walk_list (K := K) (a := a) (xs := xs); rw [hx.length] at z; exact z) tst_Ex (by have := hr1.1; omega) hD (fun H e => SqL.of (e _ _ ha2)) (fun i x H H' h => h.1 ▸ Ex.refl H) (fun i d x H H' hd e4 hy Ky Kn k1 k2 => ?_) (fun H e4 hL => ?_)⟩
    · obtain ⟨rfl, hxi⟩ := hy
      obtain ⟨d', hd', hr⟩ := paired_of hx1 hxi
      obtain rfl := Option.some.inj (hd'.symm.trans hd)
      obtain ⟨b, y, rfl, hb, p, rfl, hp⟩ := tst_Ex _ _ _ _ (Ex.tex (e.trans e4)) hr
      refine ⟨b, _, rfl, SqT.of hb, rfl, _, _, rfl, _, _, rfl, rfl, rfl, ?_⟩
      refine ⟨_, rfl, .inr ⟨p, _, rfl, SqT.of hp, _, rfl, by show 2 ≤ sizeLine; decide, fun q hq => k1 rfl _ _ (Ex.new hq) ⟨q, _, rfl, upd_same, p, rfl, ?_⟩⟩⟩
      exact Ex.new hq _ _ hp
    · rw [filter_all, List.map_id'] at hL
      exact hQ D H (Evl.fresh_back (e1.trans e) hD) ((e1.trans e).trans e4) hL
theorem sc_Sample_init : FnScope ["self", "places", "examples"] ["self", "places", "examples"] (defScope s_Sample_init) := C8.fnScope_by (by decide +kernel)
theorem mak_Sample_init {x : Str} {C : Addr} (T : Txt mg) (D : Mkr K mg x C "Sample.__init__" s_Sample_init ["self", "places", "examples"])
    (nP : NoAttr K C "places") (nR : NoAttr K C "rows")
    (C_check_places : Cal P w K mg base 2 "check_places" spPlaces [])
    (C_checked_rows : Cal P w K mg base 4 "checked_rows" spRows []) : Mak P w K mg base 5 x C (spSampleInit K C) [] := by
  have nd := sc_Sample_init.nd
  refine D.mak sc_Sample_init (fun vs H Q E h => by obtain ⟨x, dx, k, a, rows, rfl, hx, h1, h2, hL, hr1, hQ⟩ := h; rfl) (fun f cdv A outer s H vs Q E hr h => ?_)
  obtain ⟨x, dx, k, a, rows, rfl, hx, h1, h2, hL, hr1, hQ⟩ := h
  refine ⟨_, (pss_cons (ps_expr (pe_c C_check_places hr (by decide) rfl (pa_cons (pv 1) pa_nil)))
      (pss_cons (kps_fld K (pv 0) (pv 1) rfl)
      (pss_one (kps_fld K (pv 0) (pe_c C_checked_rows hr (by decide) rfl (pa_cons (pv 2) (pa_cons (pv 1) pa_nil))) rfl)))), ?_⟩
  refine ⟨_, rfl, k, rfl, h1, h2, ?_⟩
  refine ⟨_, rfl, _, rfl, x, C, dx, _, rfl, hx, D.cl, nP, (by show 0 < 1000; decide), ?_⟩
  have t0 : TEx H (upd H x (.ins C dx (putF "places" (.int k) []))) := TEx.ins _ hx
  obtain ⟨xs, ha, hxs⟩ := hL
  have nax : a ≠ x := ne_of ha hx (by intro z; cases z)
  refine ⟨_, rfl, _, rfl, a, k, rows, rfl, ⟨xs, by rw [upd_ne nax]; exact ha, hxs.tmono tst_Ex t0⟩, hr1, by omega, fun p H2 hp e2 hL2 => ?_⟩
  have hx2 := e2 _ _ (upd_same (H := H) (a := x))
  have npx : p ≠ x := fun e => by rw [e, upd_same] at hp; cases hp
  obtain ⟨ys, hp2, hys⟩ := hL2
  refine ⟨_, rfl, x, C, dx, _, rfl, hx2, D.cl, nR, (by show 1 < 1000; decide), ?_⟩
  refine hQ _ (fun b o hb hn => ?_) ⟨dx, _, p, upd_same, ?_, ?_, ⟨ys, by rw [upd_ne npx]; exact hp2, hys.tmono tst_Ex (TEx.ins _ hx2)⟩, ?_⟩
  · rw [upd_ne hn]
    exact e2 _ _ (by rw [upd_ne hn]; exact hb)
  · rw [lookup_putF, if_neg (by decide +kernel), lookup_putF, if_pos rfl]
  · rw [lookup_putF, if_pos rfl]
  · rw [lookup_putF, if_neg (by decide +kernel), lookup_putF, if_neg (by decide +kernel)]
    rfl
theorem sc_Sample_examples : FnScope ["self"] ["self"] (defScope s_Sample_examples) := C8.fnScope_by (by decide +kernel)
theorem met_Sample_examples {C : Addr} (T : Txt mg) (D : Mth K C "examples" "Sample.examples" s_Sample_examples ["self"] [])
    (nR : NoAttr K C "rows") : Met P w K mg base 1 C "examples" (spExamples K C) [] := by
  have nd := sc_Sample_examples.nd
  refine D.met sc_Sample_examples (fun vs H Q E h => by obtain ⟨x, k, rows, rfl, hS, hQ⟩ := h; rfl) (fun f cdv A outer s H vs Q E hr h => ?_)
  obtain ⟨x, k, rows, rfl, hS, hQ⟩ := h
  refine ⟨_, (pss_one (ps_ret (pe_callTy (klist_of K) rfl T.b_list (by decide +kernel) (pa_cons (kpe_fld K (pv 0) rfl) pa_nil)))), ?_⟩
  obtain ⟨dx, fs, ra, h1, h2, h3, ⟨xs, h4, h5⟩, h6⟩ := hS
  refine ⟨_, rfl, x, C, dx, fs, _, rfl, h1, D.cl, nR, h3, ra, xs, rfl, .inl (SqL.of h4), fun l hl => ?_⟩
  exact hQ l _ hl (Ex.new hl) ⟨xs, upd_same, h5.mono tst_Ex.sst (Ex.new hl)⟩
theorem sc_view_of : FnScope ["sample", "given", "rows", "number", "point", "label"] ["sample", "given"] (defScope s_view_of) := C8.fnScope_by (by decide +kernel)
theorem cal_view_of (T : Txt mg) (D : Dfn K mg "view_of" s_view_of ["sample", "given"] [])
    {C : Addr} (M_examples : Met P w K mg base 1 C "examples" (spExamples K C) []) : Cal P w K mg base 2 "view_of" (spView K C) [] := by
  have nd := sc_view_of.nd
  refine D.cal sc_view_of (fun vs H Q E h => by obtain ⟨x, k, rows, rfl, hS, hn, hQ⟩ := h; rfl) (fun f cdv A outer s H vs Q E hr h => ?_)
  obtain ⟨x, k, rows, rfl, hS, hn, hQ⟩ := h
  refine ⟨_, (pss_cons (ps_set (i := 2) nd rfl (Or.inl rfl) (pe_op op_cat (pe_mt0 M_examples hr (by decide) (pv 0)) (pe_ifExp (pt_cmpR op_isN1 (pv 1) pe_non (nomark _)) (pe_lst pa_nil) (pe_never))))
      (pss_one (ps_ret (pe_lc rfl nd (kpi_enum K rfl T.b_enumerate (pa_cons (pv 2) pa_nil)) (blkOk_by (own := [("number", 3), ("point", 4), ("label", 5)]) (N := ["sample", "given", "rows", "number", "point", "label"]) (sc := defScope s_view_of) (by decide +kernel)) (fun _ _ _ _ _ => (kpg_tup K 2 rfl (pgs_cons (pg_name (i := 3) nd rfl (Or.inl rfl)) (pgs_cons (kpg_tup K 2 rfl (pgs_cons (pg_name (i := 4) nd rfl (Or.inl rfl)) (pgs_cons (pg_name (i := 5) nd rfl (Or.inl rfl)) pgs_nil))) pgs_nil)))) (fun _ _ _ _ _ => pts_nil) (fun _ _ _ _ _ => (pe_tup (pa_cons (pv 3) (pa_cons (pv 4) (pa_cons (pv 5) pa_nil))))))))), ?_⟩
  obtain ⟨dx, fs, ra, h1, h2, h3, h4, h5⟩ := id hS
  refine ⟨_, rfl, x, dx, fs, rfl, h1, h5, x, k, rows, rfl, hS, fun p H1 hp e1 hL => ?_⟩
  obtain ⟨xs, hp1, hx⟩ := hL
  have hlen := hx.length
  refine ⟨_, rfl, rfl, true, rfl, iteT ⟨by show 0 ≤ sizeLine; decide, fun q hq => ?_⟩⟩
  have e2 : Ex H1 (upd H1 q (.lst [])) := Ex.new hq
  refine ⟨p, q, xs, [], rfl, rfl, e2 _ _ hp1, upd_same, (by show xs.length + 0 ≤ sizeLine; exact sz (by omega)), fun r hr => ?_⟩
  rw [List.append_nil]
  have e3 := (e1.trans e2).trans (Ex.new (o := .lst xs) hr)
  have hx3 := hx.mono tst_Ex.sst (e2.trans (Ex.new (o := .lst xs) hr))
  refine ⟨_, rfl, r, xs, rfl, SqL.of upd_same, fun D hD => lc_data (rows.zipIdx) (fun _ => true) IsVw (fun d => ((d.2 : Int), d.1.1, d.1.2)) (by have z := walk_enum (K := K) (a := r) (xs := xs); rw [hlen, ← List.length_zipIdx (l := rows) (i := 0)] at z; exact z) tst_Vw (by rw [List.length_zipIdx]; omega) hD (fun H e => SqL.of (e _ _ upd_same)) (fun i x H H' h => by obtain ⟨T1, y1, y2, _, hT, rfl, _⟩ := h; exact Ex.new hT) (fun i d x H H' hd e4 hy Ky Kn k1 k2 => ?_) (fun H e4 hL => ?_)⟩
  · obtain ⟨T1, y1, y2, rfl, hT, rfl, q1, q2⟩ := hy
    obtain rfl := Option.some.inj q1
    obtain ⟨d', hd', hr'⟩ := paired_of hx3 q2
    rw [List.getElem?_zipIdx, hd'] at hd
    obtain rfl := Option.some.inj hd
    obtain ⟨b, y, rfl, hb, hp⟩ := tst_Ex _ _ _ _ (Ex.tex (e4.trans (Ex.new (o := .tup [.int (i : Nat), y2]) hT))) hr'
    refine ⟨T1, _, rfl, SqT.of upd_same, rfl, _, _, rfl, _, _, rfl, b, _, rfl, SqT.of hb, rfl, _, _, rfl, _, _, rfl, rfl, rfl, rfl, ?_⟩
    refine ⟨_, rfl, _, rfl, _, rfl, by show 3 ≤ sizeLine; decide, fun u hu => k1 rfl _ _ (Ex.new hu) ⟨u, y, rfl, ?_, tst_P _ _ _ _ (Ex.tex (Ex.new hu)) hp⟩⟩
    rw [upd_same]
    simp
  · rw [filter_all] at hL
    exact hQ D H (Evl.fresh_back e3 hD) (e3.trans e4) hL
end
end K49

namespace K49
open PySem PySem.Spec PyProof.Rows L2
open C8 (Cal Met Mak pe_c pe_mk pe_mt pe_mt0 pe_gc)
open Evl (Ex)
/-- the plain kinds -/
inductive Kd where
  | halves (p : Nat) | boxes (p : Nat) | rising (p : Nat) | flats (p : Nat) | turns (m : Nat)
def Kd.places : Kd → Nat
  | .halves p => p | .boxes p => p | .rising p => p | .flats p => p | .turns _ => 1
/-- where the five classes stand -/
structure Cls5 where
  halves : Addr
  boxes : Addr
  rising : Addr
  flats : Addr
  turns : Addr
def Cls5.of (c : Cls5) : Kd → Addr
  | .halves _ => c.halves | .boxes _ => c.boxes | .rising _ => c.rising | .flats _ => c.flats | .turns _ => c.turns
structure C5Ok (K : PySem.W.Frag) (c : Cls5) : Prop where
  cl : ∀ κ, Cls K (c.of κ)
  np : ∀ κ, NoAttr K (c.of κ) "places"
  nm : NoAttr K c.turns "most"
/-- the fields of a kind -/
def Kd.more : Kd → List (Str × V) → Prop
  | .turns m, fs => fs.lookup ("most" : Str) = some (.int m)
  | _, _ => True
def KindAt (c : Cls5) (H : Hp) (a : Addr) (κ : Kd) : Prop := ∃ dx fs, H a = some (.ins (c.of κ) dx fs) ∧ fs.lookup ("places" : Str) = some (.int κ.places) ∧ κ.more fs ∧ fs.lookup ("judge" : Str) = none
theorem KindAt.mono {c : Cls5} {H H' : Hp} {a : Addr} {κ : Kd} (e : Ex H H') (h : KindAt c H a κ) : KindAt c H' a κ := by
  obtain ⟨dx, fs, h1, h2⟩ := h
  exact ⟨dx, fs, e _ _ h1, h2⟩
/-- points of k places, none twice -/
structure Pts (k : Int) (ps : List (List Int)) : Prop where
  few : ps.length ≤ 100
  len : ∀ p ∈ ps, (p.length : Int) = k
  nd : ps.Nodup
  k100 : k ≤ 100
def spCheckedPoints (c : Cls5) : Sp := fun vs H Q _ => ∃ (k a : Addr) (κ : Kd) (ps : List (List Int)), vs = [.ref k, .ref a] ∧ KindAt c H k κ ∧ Ls IsP H a ps ∧ Pts κ.places ps ∧ RL IsP ps H Q
/-- the rows of points with labels -/
abbrev Rows := List (List Int × Bool)
/-- has_rule answers Fits; what it asks of the rows -/
def spHasRule (c : Cls5) (K : PySem.W.Frag) (C : Addr) (Ask : Kd → Rows → Prop) (Fits : Kd → Rows → Prop) : Sp := fun vs H Q _ => ∃ (k x : Addr) (κ : Kd) (kk : Int) (rows : Rows), vs = [.ref k, .ref x, .non] ∧ KindAt c H k κ ∧ SampleAt K C H x kk rows ∧ rows.length ≤ 100 ∧ Ask κ rows ∧
  ∀ b : Bool, (b = true ↔ Fits κ rows) → RV (.bl b) H Q
def spGiven (c : Cls5) (Ask : Kd → Rows → Prop) (Fits : Kd → Rows → Prop) : Sp := fun vs H Q _ => ∃ (k a t : Addr) (κ : Kd) (ps : List (List Int)) (ls : List Bool), vs = [.ref k, .ref a, .ref t] ∧ KindAt c H k κ ∧ 1 ≤ κ.places ∧ κ.places ≤ 3 ∧ Ls IsP H a ps ∧ Pts κ.places ps ∧ H t = some (.tup (ls.map V.bl)) ∧ Ask κ (ps.zip ls) ∧
  ∀ b : Bool, (b = true ↔ Fits κ (ps.zip ls)) → RV (.bl b) H Q
/-- the labelings of the first n points: f tells whether some rule gives such labels -/
def labs (f : List Bool → Bool) : Nat → List (List Bool)
  | 0 => [[]]
  | n + 1 => ((labs f n).flatMap fun l => [l ++ [false], l ++ [true]]).filter f
open Classical in
noncomputable def labsOf (Fits : Kd → Rows → Prop) (κ : Kd) (ps : List (List Int)) : List (List Bool) := labs (fun ls => decide (Fits κ (ps.zip ls))) ps.length
def spLabelings (c : Cls5) (Ask : Kd → Rows → Prop) (Fits : Kd → Rows → Prop) : Sp := fun vs H Q _ => ∃ (k a : Addr) (κ : Kd) (ps : List (List Int)), vs = [.ref k, .ref a] ∧ KindAt c H k κ ∧ 1 ≤ κ.places ∧ κ.places ≤ 3 ∧ Ls IsP H a ps ∧ Pts κ.places ps ∧ ps.length ≤ 8 ∧ (∀ ls : List Bool, Ask κ (ps.zip ls)) ∧
  RL IsB (labsOf Fits κ ps) H Q
section
variable {P : Program} {w : World} {K : PySem.W.Frag} {mg : Str → Option Value} {base : Heap}
theorem sc_checked_points : FnScope ["kind", "points", "found", "thing"] ["kind", "points"] (defScope s_checked_points) := C8.fnScope_by (by decide +kernel)
theorem cal_checked_points (T : Txt mg) (D : Dfn K mg "checked_points" s_checked_points ["kind", "points"] [])
    {c : Cls5} (c5 : C5Ok K c) (C_check_point : Cal P w K mg base 3 "check_point" spCheckPoint []) : Cal P w K mg base (4) "checked_points" (spCheckedPoints c) [] := by
  have nd := sc_checked_points.nd
  refine D.cal sc_checked_points (fun vs H Q E h => by obtain ⟨k, a, κ, ps, rfl, hk, hL, hp, hQ⟩ := h; rfl) (fun f cdv A outer s H vs Q E hr h => ?_)
  obtain ⟨k, a, κ, ps, rfl, hk, hL, hp, hQ⟩ := h
  have hu65 := room65 hr
  refine ⟨_, (pss_cons (ps_set (i := 2) nd rfl (Or.inl rfl) (pe_lst pa_nil))
      (pss_cons (ps_for PassesOwn.never rfl (kpi_list K (pv 1)) (pg_name (i := 3) nd rfl (Or.inl rfl)) (pss_cons (ps_expr (pe_c C_check_point hr (by decide) rfl (pa_cons (pv 3) (pa_cons (kpe_fld K (pv 0) rfl) pa_nil))))
      (pss_cons (ps_if (pt_cmpR (kinD K hu65) (kpe_tupleOf K rfl T.b_tuple (pv 3)) (pv 2) (by with_unfolding_all rfl)) pss_never pss_nil)
      (pss_one (ps_expr (kpe_bm K PySem.F.plainAttrs_list PySem.F.slot_list_append PySem.F.type_list_append mt_append (pv 2) (pa_cons (kpe_tupleOf K rfl T.b_tuple (pv 3)) pa_nil)))))))
      (pss_one (ps_ret (pv 2))))), ?_⟩
  obtain ⟨xs, ha, hx⟩ := hL
  obtain ⟨dx, fs, hk1, hk2, hk3, hk4⟩ := hk
  refine ⟨by show 0 ≤ sizeLine; decide, fun p hp0 => ?_⟩
  have e0 : Ex H (upd H p (.lst [])) := Ex.new hp0
  have np : p ≠ a := fun e => by rw [e, ha] at hp0; cases hp0
  refine ⟨_, rfl, a, rfl, ⟨xs, SqL.of (e0 _ _ ha)⟩, for_it (walk_list (xs := xs)) (fun i σ H' => Ex H H' ∧ (∃ ys, H' p = some (.lst ys) ∧ All IsP H' ys (ps.take i)) ∧ ∃ x1, σ = [some (.ref k), some (.ref a), some (.ref p), x1]) ⟨e0, ⟨[], upd_same, .nil⟩, _, rfl⟩ (fun i σ H' _ h => SqL.of (h.1 _ _ ha)) (fun i x σ H' H2 hi h hy => ?_) (fun σ H' h => ?_)⟩
  · obtain ⟨e, ⟨ys, hpy, hys⟩, x1, rfl⟩ := h
    obtain ⟨rfl, hxi⟩ := hy
    obtain ⟨d, hd, b, rfl, hb⟩ := paired_of hx hxi
    have hb1 := e _ _ hb
    have hdl := hp.len d (List.mem_of_getElem? hd)
    refine ⟨_, rfl, _, rfl, k, c.of κ, dx, fs, _, rfl, e _ _ hk1, c5.cl κ, c5.np κ, hk2, .ref b, κ.places, d, rfl, ⟨b, rfl, hb1⟩, hdl, (by have := hp.k100; omega), fun H3 e3 => ?_⟩
    have hys3 := hys.mono tst_P.sst e3
    have hpy3 := e3 _ _ hpy
    have hb3 := e3 _ _ hb1
    have hdt := take_succ_of hd
    have nin : ((ps.take i).map eP).any (fun z => PyData.eqv z (eP d)) = false := by
      rw [List.any_map, List.any_eq_false]
      intro z hz
      show ¬ PyData.eqv (eP z) (eP d) = true
      rw [eqv_P]
      intro q
      have q := of_decide_eq_true q
      subst q
      have nd := hp.nd.sublist (List.take_sublist (i + 1) ps)
      rw [hdt, List.nodup_append] at nd
      exact nd.2.2 z hz z (by simp) rfl
    refine ⟨_, rfl, .inr ⟨b, _, rfl, SqT.of hb3, _, rfl, eP d, (ps.take i).map eP, enc_P.dp K H3 _ d ⟨b, rfl, hb3⟩, enc_P.ls K ⟨ys, hpy3, hys3⟩, enc_P.shp d, enc_P.shpL _, false, congrArg V.bl nin, iteF ?_⟩⟩
    have hylen := hys.length
    rw [List.length_take] at hylen
    refine ⟨_, rfl, .inl ⟨rfl, _, SqL.of hpy3⟩, _, rfl, .inr ⟨b, _, rfl, SqT.of hb3, p, ys, _, rfl, rfl, hpy3, szl (by have := hp.few; omega), ?_⟩⟩
    have t4 : TEx H3 (upd H3 p (.lst (ys ++ [.ref b]))) := TEx.lst _ hpy3
    refine ⟨Ex.mut (e.trans e3) hp0, ⟨_, upd_same, ?_⟩, _, rfl⟩
    rw [hdt]
    exact paired_app (hys3.tmono tst_P t4) (.cons ⟨b, rfl, t4 _ _ hb3⟩ .nil)
  · obtain ⟨e, ⟨ys, hpy, hys⟩, x1, rfl⟩ := h
    rw [hx.length, List.take_length] at hys
    exact ⟨_, rfl, hQ p H' hp0 e ⟨ys, hpy, hys⟩⟩
theorem cat_B {l : List Bool} {x : Bool} {H : Hp} {v : V} {b : Addr} {Q : VK} (hv : IsB H v l) (hb : H b = some (.tup [.bl x])) (hl : l.length ≤ 1000) (q : ∀ v' H', Ex H H' → IsB H' v' (l ++ [x]) → Q v' H') : rCatA K v (.ref b) H Q := by
  obtain ⟨a, rfl, ha⟩ := hv
  refine ⟨a, b, _, _, rfl, rfl, SqT.of ha, SqT.of hb, by rw [List.length_map]; exact sz (by simp; omega), fun h => ?_, fun _ h => (by cases h), fun _ _ p hp => ?_⟩
  · have e : l = [] := List.map_eq_nil_iff.mp h
    subst e
    exact q _ H (Ex.refl H) ⟨b, rfl, hb⟩
  · refine q _ _ (Ex.new hp) ⟨p, rfl, ?_⟩
    rw [upd_same, List.map_append]
    rfl
theorem labs_len (f : List Bool → Bool) : ∀ n, (labs f n).length ≤ 2 ^ n
  | 0 => by simp [labs]
  | n + 1 => by
    have h := labs_len f n
    have h2 : ∀ l : List (List Bool), (l.flatMap fun l => [l ++ [false], l ++ [true]]).length = 2 * l.length := fun l => by
      induction l with
      | nil => rfl
      | cons a r ih => rw [List.flatMap_cons, List.length_append, ih, List.length_cons]; simp; omega
    have h3 := List.length_filter_le f ((labs f n).flatMap fun l => [l ++ [false], l ++ [true]])
    rw [h2] at h3
    simp only [labs]
    rw [Nat.pow_succ]
    omega
theorem labs_at (f : List Bool → Bool) : ∀ n, ∀ l ∈ labs f n, l.length = n
  | 0 => by simp [labs]
  | n + 1 => fun l hl => by
    simp only [labs, List.mem_filter, List.mem_flatMap] at hl
    obtain ⟨⟨k, hk, hl⟩, _⟩ := hl
    have := labs_at f n k hk
    simp at hl
    rcases hl with rfl | rfl <;> simp [this]
theorem flat_len {l : List (List Bool)} : (l.flatMap fun l => [l ++ [false], l ++ [true]]).length = 2 * l.length := by
  induction l with
  | nil => rfl
  | cons a r ih => rw [List.flatMap_cons, List.length_append, ih, List.length_cons]; simp; omega
theorem sc_labelings : FnScope ["kind", "points", "known", "found", "point", "longer", "labels"] ["kind", "points"] (defScope s_labelings) := C8.fnScope_by (by decide +kernel)
theorem cal_labelings (T : Txt mg) (D : Dfn K mg "labelings" s_labelings ["kind", "points"] [])
    {c : Cls5} {Ask Fits : Kd → Rows → Prop} (C_checked_points : Cal P w K mg base 4 "checked_points" (spCheckedPoints c) [])
    (C_is_given : Cal P w K mg base 8 "is_given" (spGiven c Ask Fits) []) : Cal P w K mg base (9) "labelings" (spLabelings c Ask Fits) [] := by
  have nd := sc_labelings.nd
  refine D.cal sc_labelings (fun vs H Q E h => by obtain ⟨k, a, κ, ps, rfl, hk, k1', k3, hL, hp, h8, hask, hQ⟩ := h; rfl) (fun f cdv A outer s H vs Q E hr h => ?_)
  obtain ⟨k, a, κ, ps, rfl, hk, k1', k3, hL, hp, h8, hask, hQ⟩ := h
  refine ⟨_, (pss_cons (ps_set (i := 2) nd rfl (Or.inr rfl) (pe_c C_checked_points hr (by decide) rfl (pa_cons (pv 0) (pa_cons (pv 1) pa_nil))))
      (pss_cons (ps_set (i := 3) nd rfl (Or.inl rfl) (pe_lst (pa_cons (pe_tup pa_nil) pa_nil)))
      (pss_cons (ps_for PassesOwn.never rfl (kpi_list K (pv 2)) (pg_name (i := 4) nd rfl (Or.inl rfl)) (pss_cons (ps_set (i := 5) nd rfl (Or.inl rfl) (pe_lst pa_nil))
      (pss_cons (ps_for PassesOwn.never rfl (kpi_list K (pv 3)) (pg_name (i := 6) nd rfl (Or.inl rfl)) (pss_one (ps_expr (kpe_bm K PySem.F.plainAttrs_list PySem.F.slot_list_extend PySem.F.type_list_extend mt_extend (pv 5) (pa_cons (pe_lst (pa_cons (pe_op (kcat K) (pv 6) (pe_tup (pa_cons pe_bl pa_nil))) (pa_cons (pe_op (kcat K) (pv 6) (pe_tup (pa_cons pe_bl pa_nil))) pa_nil))) pa_nil)))))
      (pss_one (ps_setLc (i := 3) rfl nd rfl rfl (sw_true rfl rfl rfl (by decide +kernel)) (kpi_list K (pv 5)) (blkOk_by (own := [("labels", 6)]) (N := ["kind", "points", "known", "found", "point", "longer", "labels"]) (sc := defScope s_labelings) (by decide +kernel)) (fun _ _ _ _ _ => (pg_name (i := 6) nd rfl (Or.inl rfl))) (fun _ _ _ _ _ => (pts_one (pt_val (pe_c C_is_given hr (by decide) rfl (pa_cons (pv 0) (pa_cons (pv 2) (pa_cons (pv 6) pa_nil))))))) (fun _ _ _ _ _ => (pv 6)))))))
      (pss_one (ps_ret (pv 3)))))), ?_⟩
  refine ⟨_, rfl, _, rfl, k, a, κ, ps, rfl, hk, hL, hp, fun kn H1 hkn e1 hkL => ?_⟩
  refine ⟨by show 0 ≤ sizeLine; decide, fun t0 ht0 => ⟨by show 1 ≤ sizeLine; decide, fun q hq => ?_⟩⟩
  have e2 : Ex H (upd (upd H1 t0 (.tup [])) q (.lst [.ref t0])) := e1.trans ((Ex.new ht0).trans (Ex.new hq))
  have hkL2 : Ls IsP (upd (upd H1 t0 (.tup [])) q (.lst [.ref t0])) kn ps := hkL.mono tst_P.sst ((Ex.new ht0).trans (Ex.new hq))
  have hk2 := hk.mono e2
  have hqf : H q = none := Evl.fresh_back (e1.trans (Ex.new (o := .tup []) ht0)) hq
  have hL0 : Ls IsB (upd (upd H1 t0 (.tup [])) q (.lst [.ref t0])) q (labs (fun ls => @decide (Fits κ (ps.zip ls)) (Classical.propDecidable _)) 0) := ⟨_, upd_same, .cons ⟨t0, rfl, Ex.new hq _ _ upd_same⟩ .nil⟩
  generalize hH0 : upd (upd H1 t0 (.tup [])) q (.lst [.ref t0]) = H0 at e2 hkL2 hk2 hL0
  obtain ⟨xs, hkn2, hxs⟩ := hkL2
  generalize hf : (fun ls => @decide (Fits κ (ps.zip ls)) (Classical.propDecidable _)) = f at hL0
  refine ⟨_, rfl, kn, rfl, ⟨xs, SqL.of hkn2⟩, for_it (walk_list (xs := xs)) (fun i σ H' => Ex H0 H' ∧ ∃ q x1 x2 x3, σ = [some (.ref k), some (.ref a), some (.ref kn), some (.ref q), x1, x2, x3] ∧ H q = none ∧ Ls IsB H' q (labs f i)) ⟨Ex.refl _, _, _, _, _, rfl, hqf, hL0⟩ (fun i σ H' _ h => SqL.of (h.1 _ _ hkn2)) (fun i x σ H9 H' hi h hy => ?_) (fun σ H' h => ?_)⟩
  · obtain ⟨e, q, x1, x2, x3, rfl, hqf', ys, hq1, hys⟩ := h
    obtain ⟨rfl, hxi⟩ := hy
    have hi8 : i < 8 := by have := hxs.length; omega
    have hyl := hys.length
    have hll := labs_len f i
    have hl2 : 2 ^ i ≤ 2 ^ 8 := Nat.pow_le_pow_right (by decide) (by omega)
    refine ⟨by show 0 ≤ sizeLine; decide, fun L hL => ?_⟩
    have eL : Ex H' (upd H' L (.lst [])) := Ex.new hL
    refine ⟨_, rfl, q, rfl, ⟨ys, SqL.of (eL _ _ hq1)⟩, for_it (walk_list (xs := ys)) (fun j σ H3 => Ex H' H3 ∧ (∃ x3, σ = [some (.ref k), some (.ref a), some (.ref kn), some (.ref q), some x, some (.ref L), x3]) ∧ Ls IsB H3 L (((labs f i).take j).flatMap fun l => [l ++ [false], l ++ [true]])) ⟨eL, ⟨_, rfl⟩, ⟨[], upd_same, .nil⟩⟩ (fun j σ H3 _ h => SqL.of (h.1 _ _ hq1)) (fun j y σ H9 H3 hj h hy => ?_) (fun σ H3 h => ?_)⟩
    · obtain ⟨e3, ⟨x3, rfl⟩, zs, hL3, hzs⟩ := h
      obtain ⟨rfl, hyj⟩ := hy
      obtain ⟨l, hl, hly⟩ := paired_of hys hyj
      have hly3 := tst_B _ _ _ _ (Ex.tex e3) hly
      have hll2 := labs_at f i l (List.mem_of_getElem? hl)
      refine ⟨_, rfl, .inl ⟨rfl, _, SqL.of hL3⟩, _, rfl, by show 1 ≤ sizeLine; decide, fun b1 hb1 => cat_B (tst_B _ _ _ _ (Ex.tex (Ex.new (o := .tup [.bl false]) hb1)) hly3) upd_same (by omega) fun v1 H5 e5 hv1 => ?_⟩
      have e5' := (Ex.new (o := .tup [.bl false]) hb1).trans e5
      refine ⟨_, rfl, by show 1 ≤ sizeLine; decide, fun b2 hb2 => cat_B (tst_B _ _ _ _ (Ex.tex (e5'.trans (Ex.new (o := .tup [.bl true]) hb2))) hly3) upd_same (by omega) fun v2 H6 e6 hv2 => ?_⟩
      have e6' := (Ex.new (o := .tup [.bl true]) hb2).trans e6
      refine ⟨by show 2 ≤ sizeLine; decide, fun p hp => ?_⟩
      have e7 := Ex.new (o := .lst [v1, v2]) hp
      have eA := (e5'.trans e6').trans e7
      have hL7 := eA _ _ hL3
      have hzl := hzs.length
      rw [flat_len, List.length_take] at hzl
      refine ⟨L, p, zs, [v1, v2], rfl, rfl, hL7, upd_same, by show zs.length + 2 ≤ sizeLine; exact sz (by omega), ?_⟩
      have t8 : TEx (upd H6 p (.lst [v1, v2])) (upd (upd H6 p (.lst [v1, v2])) L (.lst (zs ++ [v1, v2]))) := TEx.lst _ hL7
      refine ⟨Ex.mut (e3.trans eA) hL, ⟨_, rfl⟩, ⟨_, upd_same, ?_⟩⟩
      rw [take_succ_of hl, List.flatMap_append]
      refine paired_app ((hzs.mono tst_B.sst eA).tmono tst_B t8) (.cons ?_ (.cons ?_ .nil))
      · exact tst_B _ _ _ _ ((Ex.tex (e6'.trans e7)).trans t8) hv1
      · exact tst_B _ _ _ _ ((Ex.tex e7).trans t8) hv2
    · obtain ⟨e3, ⟨x3, rfl⟩, hLs⟩ := h
      rw [hyl, List.take_length] at hLs
      obtain ⟨zs, hL3, hzs⟩ := hLs
      have hzl := hzs.length
      have hzw : Walk (Itl K L) (((labs f i).flatMap fun l => [l ++ [false], l ++ [true]])).length (fun H => SqL K H L zs) (YAt zs) := by
        have z := walk_list (K := K) (a := L) (xs := zs)
        rw [hzl] at z
        exact z
      refine ⟨_, rfl, L, rfl, ⟨zs, SqL.of hL3⟩, fun D hD => lc_data ((labs f i).flatMap fun l => [l ++ [false], l ++ [true]]) f IsB (fun l => l) hzw tst_B (by rw [flat_len]; omega) hD (fun H e => SqL.of (e _ _ hL3)) (fun i x H H' h => h.1 ▸ Ex.refl H) (fun j l y H9 H5 hl e5 hy Ky Kn k1 k2 => ?_) (fun H5 e5 hLs => ?_)⟩
      · obtain ⟨rfl, hyj⟩ := hy
        obtain ⟨l', hl', t, rfl, ht⟩ := paired_of hzs hyj
        obtain rfl := Option.some.inj (hl'.symm.trans hl)
        have e05 := (e.trans e3).trans e5
        refine ⟨rfl, _, rfl, _, rfl, _, rfl, k, kn, t, κ, ps, l', rfl, hk2.mono e05, k1', k3, ⟨xs, e05 _ _ hkn2, hxs.mono tst_P.sst e05⟩, hp, e5 _ _ ht, hask l', fun b hb H6 e6 => ⟨b, rfl, ?_⟩⟩
        have ef : f l' = b := by
          rw [← hf]
          by_cases z : Fits κ (ps.zip l')
          · rw [hb.mpr z]
            exact @decide_eq_true _ (Classical.propDecidable _) z
          · have : b = false := by
              cases b
              · rfl
              · exact absurd (hb.mp rfl) z
            rw [this]
            exact @decide_eq_false _ (Classical.propDecidable _) z
        cases b with
        | true =>
          refine iteT ⟨_, rfl, k1 ef _ _ e6 ⟨t, rfl, e6 _ _ (e5 _ _ ht)⟩⟩
        | false => exact iteF (k2 ef _ e6)
      · rw [List.map_id'] at hLs
        exact ⟨(e.trans e3).trans e5, D, _, _, _, rfl, Evl.fresh_back ((e2.trans e).trans e3) hD, hLs⟩
  · obtain ⟨e, q, x1, x2, x3, rfl, hqf', hLs⟩ := h
    rw [hxs.length] at hLs
    refine ⟨_, rfl, hQ q H' hqf' (e2.trans e) ?_⟩
    · show Ls IsB H' q (labsOf Fits κ ps)
      unfold labsOf
      rw [← hf] at hLs
      exact hLs
/-- judge's promise -/
def spJudge (c : Cls5) (κ : Kd) (Ask Fits : Kd → Rows → Prop) : Sp := fun vs H Q _ => ∃ (k v : Addr) (rows : Rows), vs = [.ref k, .ref v] ∧ KindAt c H k κ ∧ Ls IsVw H v (viewOf rows) ∧ rows.length ≤ 100 ∧ Ask κ rows ∧
  ∀ (t : Addr) (H' : Hp) (x y : V), H t = none → Ex H H' → H' t = some (.tup [x, y]) → (x ≠ .non ↔ Fits κ rows) → Q (.ref t) H'
theorem sc_has_rule : FnScope ["kind", "sample", "given"] ["kind", "sample", "given"] (defScope s_has_rule) := C8.fnScope_by (by decide +kernel)
theorem cal_has_rule (T : Txt mg) (D : Dfn K mg "has_rule" s_has_rule ["kind", "sample", "given"] [.non])
    {c : Cls5} {C : Addr} {Ask Fits : Kd → Rows → Prop} (C_view_of : Cal P w K mg base 2 "view_of" (spView K C) [])
    (MJ : ∀ κ, Met P w K mg base 6 (c.of κ) "judge" (spJudge c κ Ask Fits) []) : Cal P w K mg base (7) "has_rule" (spHasRule c K C Ask Fits) [.non] := by
  have nd := sc_has_rule.nd
  refine D.cal sc_has_rule (fun vs H Q E h => by obtain ⟨k, x, κ, kk, rows, rfl, hk, hS, hn, hask, hQ⟩ := h; rfl) (fun f cdv A outer s H vs Q E hr h => ?_)
  obtain ⟨k, x, κ, kk, rows, rfl, hk, hS, hn, hask, hQ⟩ := h
  have M_judge := MJ κ
  refine ⟨_, (pss_one (ps_ret (pe_cmpR op_notN1 (pe_ix (kix_tup K) (pe_mt M_judge hr (by decide) (pv 0) (pa_cons (pe_c C_view_of hr (by decide) rfl (pa_cons (pv 1) (pa_cons (pv 2) pa_nil))) pa_nil)) pe_int (fun _ _ => rfl)) pe_non (nomark _)))), ?_⟩
  obtain ⟨dx, fs, hk1, hk2, hk3, hk4⟩ := id hk
  refine ⟨_, rfl, k, dx, fs, rfl, hk1, hk4, _, rfl, _, rfl, x, kk, rows, rfl, hS, hn, fun v H1 hv e1 hL => ?_⟩
  refine ⟨k, v, rows, rfl, hk.mono e1, hL, hn, hask, fun t H2 y z ht e2 hT hF => ?_⟩
  refine ⟨t, _, 0, y, rfl, rfl, SqT.of hT, rfl, rfl, ?_⟩
  exact hQ _ (by rw [← hF]; simp) H2 (e1.trans e2)
theorem sc_is_given : FnScope ["kind", "points", "labels"] ["kind", "points", "labels"] (defScope s_is_given) := C8.fnScope_by (by decide +kernel)
theorem cal_is_given (T : Txt mg) (D : Dfn K mg "is_given" s_is_given ["kind", "points", "labels"] [])
    {c : Cls5} (c5 : C5Ok K c) {C : Addr} {Ask Fits : Kd → Rows → Prop} (C_has_rule : Cal P w K mg base 7 "has_rule" (spHasRule c K C Ask Fits) [.non])
    (K_Sample : Mak P w K mg base 5 "Sample" C (spSampleInit K C) []) : Cal P w K mg base (8) "is_given" (spGiven c Ask Fits) [] := by
  have nd := sc_is_given.nd
  refine D.cal sc_is_given (fun vs H Q E h => by obtain ⟨k, a, t, κ, ps, ls, rfl, hk, k1, k3, hL, hp, ht, hask, hQ⟩ := h; rfl) (fun f cdv A outer s H vs Q E hr h => ?_)
  obtain ⟨k, a, t, κ, ps, ls, rfl, hk, k1, k3, hL, hp, ht, hask, hQ⟩ := h
  refine ⟨_, (pss_one (ps_ret (pe_c C_has_rule hr (by decide) rfl (pa_cons (pv 0) (pa_cons (pe_mk K_Sample hr (by decide) rfl (pa_cons (kpe_fld K (pv 0) rfl) (pa_cons (pe_listZip K rfl rfl T.b_list rfl T.b_zip (pv 1) (pv 2)) pa_nil))) pa_nil))))), ?_⟩
  obtain ⟨dx, fs, hk1, hk2, hk3, hk4⟩ := id hk
  obtain ⟨xs, ha, hx⟩ := hL
  refine ⟨_, rfl, _, rfl, k, c.of κ, dx, fs, _, rfl, hk1, c5.cl κ, c5.np κ, hk2, ?_⟩
  refine ⟨_, rfl, _, rfl, a, t, xs, _, rfl, rfl, SqL.of ha, SqT.of ht, by rw [hx.length]; have := hp.few; omega, fun p H1 hp1 e1 hz => ?_⟩
  intro x dx' hx0 hdx hne
  have hxH : H x = none := Evl.fresh_back e1 hx0
  have eA : Ex H1 (upd (upd H1 dx' (.own x)) x (.ins C dx' [])) := (Ex.new hdx).trans (Ex.new (by rw [upd_ne hne.symm]; exact hx0))
  have hzl : (ps.zip ls).length ≤ 100 := Nat.le_trans (by rw [List.length_zip]; exact Nat.min_le_left _ _) hp.few
  have hrows : Ls IsEx (upd (upd H1 dx' (.own x)) x (.ins C dx' [])) p (ps.zip ls) := by
    obtain ⟨zs, hzp, hzz⟩ := hz
    refine ⟨zs, eA _ _ hzp, ?_⟩
    have hx1 : All IsP H1 xs ps := hx.mono tst_P.sst e1
    have key : ∀ {zs xs : List V} {ps : List (List Int)} {ls : List Bool}, All IsP H1 xs ps → All IsPr H1 zs (xs.zip (ls.map V.bl)) → All IsEx H1 zs (ps.zip ls) := by
      intro zs xs
      induction xs generalizing zs with
      | nil =>
        intro ps ls h1 h2
        cases h1
        cases h2
        exact .nil
      | cons y ys ih =>
        intro ps ls h1 h2
        cases h1 with
        | cons r t =>
          cases ls with
          | nil =>
            cases h2
            rw [List.zip_nil_right]
            exact .nil
          | cons b bs =>
            cases h2 with
            | cons r2 t2 =>
              obtain ⟨u, rfl, hu⟩ := r2
              exact .cons ⟨u, y, rfl, hu, r⟩ (ih t t2)
    exact (key hx1 hzz).mono tst_Ex.sst eA
  refine ⟨x, dx', κ.places, p, ps.zip ls, rfl, upd_same, by omega, by omega, hrows, ⟨hzl, fun d hd => hp.len d.1 (List.of_mem_zip hd).1⟩, fun H2 e2 hS => ⟨rfl, ?_⟩⟩
  have e02 : Ex H H2 := fun b o hb => by
    have nb := ne_of_none hb hxH
    exact e2 b o (by rw [upd_ne nb]; exact Ex.new hdx b o (e1 b o hb)) nb
  exact ⟨k, x, κ, κ.places, ps.zip ls, rfl, hk.mono e02, hS, hzl, hask, fun b hb H3 e3 => hQ b hb H3 (e02.trans e3)⟩
end
end K49

namespace K49
open PySem PySem.Spec PyProof.Rows L2
open C8 (Cal Met Mak pe_c pe_mk pe_mt pe_mt0 pe_gc)
open Evl (Ex)
def loOf (p : List Int) : Int := match p.getLast? with | none => 0 | some x => x + 1
def nextOf (n : Int) (p : List Int) : List (List Int) := (List.range (n - loOf p).toNat).map fun j => p ++ [loOf p + (j : Nat)]
def partsOf (n : Int) : Nat → List (List Int)
  | 0 => [[]]
  | m + 1 => (partsOf n m).flatMap (nextOf n)
def allParts (n : Nat) : List (List Int) := (List.range (n + 1)).flatMap fun m => partsOf n m
theorem parts_small (n : Nat) (hn : n < 6) (m : Nat) (hm : m < 7) : (partsOf n m).length ≤ 10 ∧ ∀ p ∈ partsOf n m, p.length ≤ 6 ∧ 0 ≤ loOf p ∧ loOf p ≤ 6 ∧ ∀ x ∈ p, 0 ≤ x ∧ x < n := by
  have h : ∀ n : Fin 6, ∀ m : Fin 7, (partsOf n.val m.val).length ≤ 10 ∧ ∀ p ∈ partsOf n.val m.val, p.length ≤ 6 ∧ 0 ≤ loOf p ∧ loOf p ≤ 6 ∧ ∀ x ∈ p, 0 ≤ x ∧ x < (n.val : Int) := by decide +kernel
  exact h ⟨n, hn⟩ ⟨m, hm⟩
theorem all_small (n : Nat) (hn : n < 6) : (allParts n).length ≤ 32 ∧ ∀ p ∈ allParts n, p.length ≤ n ∧ ∀ x ∈ p, 0 ≤ x ∧ x < n := by
  have h : ∀ n : Fin 6, (allParts n.val).length ≤ 32 ∧ ∀ p ∈ allParts n.val, p.length ≤ n.val ∧ ∀ x ∈ p, 0 ≤ x ∧ x < (n.val : Int) := by decide +kernel
  exact h ⟨n, hn⟩
theorem flat_take {α β : Type} (f : α → List β) (l : List α) (i : Nat) : ((l.take i).flatMap f).length ≤ (l.flatMap f).length := by
  have e : l.flatMap f = (l.take i).flatMap f ++ (l.drop i).flatMap f := by rw [← List.flatMap_append, List.take_append_drop]
  rw [e, List.length_append]
  omega
def spPartsOf : Sp := fun vs H Q _ => ∃ n m : Nat, vs = [.int n, .int m] ∧ n < 6 ∧ m < 6 ∧ RL IsP (partsOf n m) H Q
def spAllParts : Sp := fun vs H Q _ => ∃ n : Nat, vs = [.int n] ∧ n < 6 ∧ RL IsP (allParts n) H Q
/-- part + (x,) -/
theorem cat_P {K : PySem.W.Frag} {l : List Int} {x : Int} {H : Hp} {v : V} {b : Addr} {Q : VK} (hv : IsP H v l) (hb : H b = some (.tup [.int x])) (hl : l.length ≤ 1000) (q : ∀ v' H', Ex H H' → IsP H' v' (l ++ [x]) → Q v' H') : rCatA K v (.ref b) H Q := by
  obtain ⟨a, rfl, ha⟩ := hv
  refine ⟨a, b, _, _, rfl, rfl, SqT.of ha, SqT.of hb, by rw [List.length_map]; exact sz (by simp; omega), fun h => ?_, fun _ h => (by cases h), fun _ _ p hp => ?_⟩
  · have e : l = [] := List.map_eq_nil_iff.mp h
    subst e
    exact q _ H (Ex.refl H) ⟨b, rfl, hb⟩
  · refine q _ _ (Ex.new hp) ⟨p, rfl, ?_⟩
    rw [upd_same, List.map_append]
    rfl
theorem atI_nat_ {α : Type} {xs : List α} {i : Nat} {x : α} (h : xs[i]? = some x) : atI xs (i : Int) = some x := by
  have hl : i < xs.length := by
    rcases Nat.lt_or_ge i xs.length with q | q
    · exact q
    · rw [List.getElem?_eq_none q] at h
      cases h
  unfold atI ixN
  rw [if_pos (by omega), if_pos (by omega)]
  show xs[((i : Nat) : Int).toNat]? = _
  rw [Int.toNat_natCast]
  exact h
theorem atI_int {α : Type} {xs : List α} {i : Int} {x : α} (h0 : 0 ≤ i) (h : xs[i.toNat]? = some x) : atI xs i = some x := by
  have z := atI_nat_ h
  rwa [Int.toNat_of_nonneg h0] at z
theorem atI_last {α : Type} (xs : List α) (x : α) : atI (xs ++ [x]) (-1) = some x := by
  unfold atI ixN
  rw [List.length_append, if_neg (by decide), if_pos (by simp; omega)]
  show (xs ++ [x])[((-1 : Int) + ((xs.length + 1 : Nat) : Int)).toNat]? = _
  rw [show ((-1 : Int) + ((xs.length + 1 : Nat) : Int)).toNat = xs.length from by omega]
  simp
section
variable {P : Program} {w : World} {K : PySem.W.Frag} {mg : Str → Option Value} {base : Heap}
theorem sc_parts_of : FnScope ["size", "many", "found", "turn", "part", "at"] ["size", "many"] (defScope s_parts_of) := C8.fnScope_by (by decide +kernel)
theorem cal_parts_of (T : Txt mg) (D : Dfn K mg "parts_of" s_parts_of ["size", "many"] []) : Cal P w K mg base (1) "parts_of" (spPartsOf) [] := by
  have nd := sc_parts_of.nd
  refine D.cal sc_parts_of (fun vs H Q E h => by obtain ⟨n, m, rfl, hn, hm, hQ⟩ := h; rfl) (fun f cdv A outer s H vs Q E hr h => ?_)
  obtain ⟨n, m, rfl, hn, hm, hQ⟩ := h
  have hu64 := room64 hr
  refine ⟨_, (pss_cons (ps_set (i := 2) nd rfl (Or.inl rfl) (pe_lst (pa_cons (pe_tup pa_nil) pa_nil)))
      (pss_cons (ps_for PassesOwn.never rfl (pi_range1 rfl T.b_range (pa_cons (pv 1) pa_nil)) (pg_name (i := 3) nd rfl (Or.inl rfl)) (pss_one (ps_setLc2 (i := 2) (vs1 := [5]) rfl nd rfl rfl (sw_true rfl rfl rfl (by decide +kernel)) (kpi_list K (pv 2)) (blkOk_by (own := [("part", 4), ("at", 5)]) (N := ["size", "many", "found", "turn", "part", "at"]) (sc := defScope s_parts_of) (by decide +kernel)) (by decide) (fun _ _ _ _ _ => (pg_name (i := 4) nd rfl (Or.inl rfl))) (fun _ _ _ _ _ => pts_nil) (fun _ _ _ _ _ => (pi_range2 rfl T.b_range (pa_cons (pe_ifExp (pt_cmpR (kneD K hu64) (pv 4) (pe_tup pa_nil) (nomark _)) (pe_op op_add (pe_ix (kix_tup K) (pv 4) (pe_un un_neg pe_int) (fun _ _ => rfl)) pe_int) pe_int) (pa_cons (pv 0) pa_nil)))) (fun _ _ _ _ _ => (pg_name (i := 5) nd rfl (Or.inl rfl))) (fun _ _ _ _ _ => pts_nil) (fun _ _ _ _ _ => (pe_op (kcat K) (pv 4) (pe_tup (pa_cons (pv 5) pa_nil)))))))
      (pss_one (ps_ret (pv 2))))), ?_⟩
  refine ⟨by show 0 ≤ sizeLine; decide, fun t0 ht0 => ⟨by show 1 ≤ sizeLine; decide, fun q hq => ?_⟩⟩
  have e2 : Ex H (upd (upd H t0 (.tup [])) q (.lst [.ref t0])) := (Ex.new ht0).trans (Ex.new hq)
  have hqf : H q = none := Evl.fresh_back (Ex.new (o := .tup []) ht0) hq
  have hL0 : Ls IsP (upd (upd H t0 (.tup [])) q (.lst [.ref t0])) q (partsOf n 0) := ⟨_, upd_same, .cons ⟨t0, rfl, Ex.new hq _ _ upd_same⟩ .nil⟩
  generalize upd (upd H t0 (.tup [])) q (.lst [.ref t0]) = H0 at e2 hL0
  refine ⟨_, rfl, m, rfl, by omega, by omega, for_it walk_range (fun i σ H' => Ex H0 H' ∧ ∃ q x1 x2 x3, σ = [some (.int n), some (.int m), some (.ref q), x1, x2, x3] ∧ H q = none ∧ Ls IsP H' q (partsOf n i)) ⟨Ex.refl _, _, _, _, _, rfl, hqf, hL0⟩ (fun i σ H' _ h => trivial) (fun i x σ H9 H' hi h hy => ?_) (fun σ H' h => ?_)⟩
  · obtain ⟨e, q, x1, x2, x3, rfl, hqf', ys, hq1, hys⟩ := h
    obtain ⟨rfl, rfl⟩ := hy
    have hi6 : i < 6 := by
      have : (m : Int).toNat = m := by omega
      omega
    obtain ⟨hs1, hs2⟩ := parts_small n hn i (by omega)
    have hs3 := (parts_small n hn (i + 1) (by omega)).1
    have hyl := hys.length
    refine ⟨_, rfl, q, rfl, ⟨ys, SqL.of hq1⟩, fun D hD => ?_⟩
    refine ⟨fun j k H3 => k = ys.length - j ∧ j ≤ ys.length ∧ Ex H' H3 ∧ Ls IsP H3 D (((partsOf n i).take j).flatMap (nextOf n)), ⟨_, rfl, by omega, Ex.new hD, [], upd_same, .nil⟩, ?_⟩
    rintro j k H3 ⟨rfl, hj, e3, hLD⟩
    by_cases hlt : j < ys.length
    · refine .inr ⟨⟨ys, ys[j], SqL.of (e3 _ _ hq1), by simp [hlt]⟩, fun H4 => Ex H' H4 ∧ Ls IsP H4 D (((partsOf n i).take (j + 1)).flatMap (nextOf n)), fun H4 h => ⟨_, by omega, rfl, by omega, h⟩, fun x H9 hy => ?_⟩
      obtain ⟨rfl, hy⟩ := hy
      have hxj := hy ys (SqL.of (e3 _ _ hq1))
      obtain ⟨p, hp, hxp⟩ := paired_of hys hxj
      have hpm := hs2 p (List.mem_of_getElem? hp)
      obtain ⟨a, rfl, ha⟩ := hxp
      refine ⟨rfl, _, rfl, by show 0 ≤ sizeLine; decide, fun b hb => ?_⟩
      have eb : Ex H9 (upd H9 b (.tup [])) := Ex.new hb
      refine ⟨_, _, enc_P.dp K _ _ p ⟨a, rfl, eb _ _ (e3 _ _ ha)⟩, dp_nilT upd_same, enc_P.shp p, shp_nilT, ?_⟩
      have hne : (!PyData.eqv (eP p) (.tuple [])) = !p.isEmpty := by
        unfold eP
        rw [eqv_nilT, List.isEmpty_map]
      rw [hne]
      have hLD5 := hLD.mono tst_P.sst eb
      have ha5 := eb _ _ (e3 _ _ ha)
      generalize upd H9 b (.tup []) = H5 at eb hLD5 ha5
      have htk := take_succ_of hp
      have hfl := flat_take (nextOf n) (partsOf n i) (j + 1)
      rw [htk, List.flatMap_append] at hfl
      have hft : ([p] : List (List Int)).flatMap (nextOf n) = nextOf n p := by simp
      rw [hft, List.length_append] at hfl
      have hs3' : ((partsOf n i).flatMap (nextOf n)).length ≤ 10 := hs3
      have key : ∃ W1 : Nat → Nat → Hp → Prop, (∃ m, W1 0 m H5) ∧ ∀ j1 k H, W1 j1 k H → ((Itr (loOf p) (n - loOf p).toNat).stop j1 H ∧ (Ex H' H ∧ Ls IsP H D (((partsOf n i).take (j + 1)).flatMap (nextOf n)))) ∨ ((Itr (loOf p) (n - loOf p).toNat).go j1 H ∧ ∃ Nx1 : Hp → Prop, (∀ H', Nx1 H' → ∃ k', k' < k ∧ W1 (j1 + 1) k' H') ∧ ∀ x H', (Itr (loOf p) (n - loOf p).toNat).yld j1 H x H' → ∀ t, H' t = none → rCatA K (.ref a) (.ref t) (upd H' t (.tup [x])) fun y H7 => ∃ acc, H7 D = some (.lst acc) ∧ acc.length < sizeLine ∧ Nx1 (upd H7 D (.lst (acc ++ [y])))) := by
        have hnl : (nextOf n p).length = (n - loOf p).toNat := by simp [nextOf]
        refine ⟨fun j1 k H7 => k = (n - loOf p).toNat - j1 ∧ j1 ≤ (n - loOf p).toNat ∧ Ex H' H7 ∧ Ls IsP H7 D (((partsOf n i).take j).flatMap (nextOf n) ++ (nextOf n p).take j1), ⟨_, rfl, by omega, e3.trans eb, by rw [List.take_zero, List.append_nil]; exact hLD5⟩, ?_⟩
        rintro j1 k H6 ⟨rfl, hj1, e6, hL6⟩
        by_cases hl1 : j1 < (n - loOf p).toNat
        · refine .inr ⟨hl1, fun H7 => Ex H' H7 ∧ Ls IsP H7 D (((partsOf n i).take j).flatMap (nextOf n) ++ (nextOf n p).take (j1 + 1)), fun H7 h => ⟨_, by omega, rfl, by omega, h⟩, fun x H8 hx t ht => ?_⟩
          obtain ⟨rfl, rfl⟩ := hx
          obtain ⟨zs, hD6, hzs⟩ := hL6
          have et : Ex H8 (upd H8 t (.tup [.int (loOf p + (j1 : Nat))])) := Ex.new ht
          refine cat_P (tst_P _ _ _ _ (Ex.tex (e6.trans et)) ⟨a, rfl, ha⟩) upd_same (by have := hpm.1; omega) fun v7 H7 e7 hv7 => ?_
          have hD7 := e7 _ _ (et _ _ hD6)
          have hzl := hzs.length
          rw [List.length_append, List.length_take (l := nextOf n p)] at hzl
          have hfl2 := flat_take (nextOf n) (partsOf n i) j
          refine ⟨zs, hD7, szl (by omega), Ex.mut ((e6.trans et).trans e7) hD, _, upd_same, ?_⟩
          have hg : (nextOf n p)[j1]? = some (p ++ [loOf p + (j1 : Nat)]) := by
            unfold nextOf
            rw [List.getElem?_map, List.getElem?_range hl1]
            rfl
          rw [take_succ_of hg, ← List.append_assoc]
          exact paired_app ((hzs.mono tst_P.sst (et.trans e7)).tmono tst_P (TEx.lst _ hD7)) (.cons (tst_P _ _ _ _ (TEx.lst _ hD7) hv7) .nil)
        · have ej : j1 = (n - loOf p).toNat := by omega
          subst ej
          refine .inl ⟨Nat.le_refl _, e6, ?_⟩
          rw [htk, List.flatMap_append, hft]
          rw [← hnl, List.take_length] at hL6
          exact hL6
      obtain ⟨W1, k1, k2⟩ := key
      by_cases hpe : p = []
      · subst hpe
        refine ⟨false, rfl, iteF ⟨_, rfl, 0, n, rfl, by omega, W1, k1, fun j1 k H6 hw => (k2 j1 k H6 hw).imp id fun h => ?_⟩⟩
        obtain ⟨g, N, n1, n2⟩ := h
        exact ⟨g, N, n1, fun x H7 hy => ⟨rfl, _, rfl, _, rfl, by show 1 ≤ sizeLine; decide, fun t ht => n2 x H7 hy t ht⟩⟩
      · obtain ⟨p0, pr, rfl⟩ : ∃ p0 pr, p = pr ++ [p0] := ⟨p.getLast hpe, p.dropLast, (List.dropLast_concat_getLast hpe).symm⟩
        have hlo : loOf (pr ++ [p0]) = p0 + 1 := by simp [loOf]
        have hie : (!(pr ++ [p0]).isEmpty) = true := by simp
        rw [hie]
        rw [hlo] at k2 hpm
        refine ⟨true, rfl, iteT ⟨_, rfl, 1, rfl, _, _, -1, .int p0, rfl, rfl, SqT.of ha5, ?_, _, _, rfl, rfl, ?_⟩⟩
        · rw [List.map_append]
          exact atI_last _ _
        refine ⟨_, rfl, p0 + 1, n, rfl, by omega, W1, k1, fun j1 k H6 hw => (k2 j1 k H6 hw).imp id fun h => ?_⟩
        obtain ⟨g, N, n1, n2⟩ := h
        exact ⟨g, N, n1, fun x H7 hy => ⟨rfl, _, rfl, _, rfl, by show 1 ≤ sizeLine; decide, fun t ht => n2 x H7 hy t ht⟩⟩
    · have ej : j = ys.length := by omega
      subst ej
      rw [hyl, List.take_length] at hLD
      exact .inl ⟨⟨ys, SqL.of (e3 _ _ hq1), Nat.le_refl _⟩, e.trans e3, D, _, _, _, rfl, Evl.fresh_back (e2.trans e) hD, hLD⟩
  · obtain ⟨e, q, x1, x2, x3, rfl, hqf', hL⟩ := h
    exact ⟨_, rfl, hQ q H' hqf' (e2.trans e) hL⟩
theorem sc_all_parts : FnScope ["size", "found", "many"] ["size"] (defScope s_all_parts) := C8.fnScope_by (by decide +kernel)
theorem cal_all_parts (T : Txt mg) (D : Dfn K mg "all_parts" s_all_parts ["size"] [])
    (C_parts_of : Cal P w K mg base 1 "parts_of" spPartsOf []) : Cal P w K mg base (2) "all_parts" (spAllParts) [] := by
  have nd := sc_all_parts.nd
  refine D.cal sc_all_parts (fun vs H Q E h => by obtain ⟨n, rfl, hn, hQ⟩ := h; rfl) (fun f cdv A outer s H vs Q E hr h => ?_)
  obtain ⟨n, rfl, hn, hQ⟩ := h
  refine ⟨_, (pss_cons (ps_set (i := 1) nd rfl (Or.inl rfl) (pe_lst pa_nil))
      (pss_cons (ps_for PassesOwn.never rfl (pi_range1 rfl T.b_range (pa_cons (pe_op op_add (pv 0) pe_int) pa_nil)) (pg_name (i := 2) nd rfl (Or.inl rfl)) (pss_one (ps_expr (kpe_bm K PySem.F.plainAttrs_list PySem.F.slot_list_extend PySem.F.type_list_extend mt_extend (pv 1) (pa_cons (pe_c C_parts_of hr (by decide) rfl (pa_cons (pv 0) (pa_cons (pv 2) pa_nil))) pa_nil)))))
      (pss_one (ps_ret (pv 1))))), ?_⟩
  refine ⟨by show 0 ≤ sizeLine; decide, fun q hq => ?_⟩
  have e2 : Ex H (upd H q (.lst [])) := Ex.new hq
  obtain ⟨ha1, ha2⟩ := all_small n hn
  refine ⟨_, rfl, _, _, rfl, rfl, (n : Int) + 1, rfl, by omega, by omega, for_it walk_range (fun i σ H' => Ex H H' ∧ ∃ x1, σ = [some (.int n), some (.ref q), x1] ∧ Ls IsP H' q ((List.range i).flatMap fun m => partsOf n m)) ⟨e2, _, rfl, [], upd_same, .nil⟩ (fun i σ H' _ h => trivial) (fun i x σ H9 H' hi h hy => ?_) (fun σ H' h => ?_)⟩
  · obtain ⟨e, x1, rfl, ys, hq1, hys⟩ := h
    obtain ⟨rfl, rfl⟩ := hy
    have hi6 : i < 6 := by omega
    refine ⟨_, rfl, .inl ⟨rfl, _, SqL.of hq1⟩, _, rfl, _, rfl, n, i, (by show [V.int n, V.int (0 + (i : Nat))] = _; rw [show (0 : Int) + (i : Nat) = i from by omega]), hn, by omega, fun p H3 hp e3 hL3 => ?_⟩
    obtain ⟨zs, hp3, hzs⟩ := hL3
    have hzl := hzs.length
    have hyl := hys.length
    have h10 := (parts_small n hn i (by omega)).1
    have hq3 := e3 _ _ hq1
    have hy32 : ((List.range i).flatMap fun m => partsOf n m).length ≤ 32 := by
      have z := flat_take (fun m => partsOf n m) (List.range (n + 1)) i
      rw [List.take_range, show min i (n + 1) = i from by omega] at z
      exact Nat.le_trans z ha1
    refine ⟨q, p, ys, zs, rfl, rfl, hq3, hp3, sz (by omega), Ex.mut (e.trans e3) hq, _, rfl, ⟨_, upd_same, ?_⟩⟩
    rw [List.range_succ, List.flatMap_append]
    refine paired_app ((hys.mono tst_P.sst e3).tmono tst_P (TEx.lst _ hq3)) ?_
    have e1 : ([i] : List Nat).flatMap (fun m => partsOf n m) = partsOf n i := by simp
    rw [e1]
    exact hzs.tmono tst_P (TEx.lst _ hq3)
  · obtain ⟨e, x1, rfl, hL⟩ := h
    refine ⟨_, rfl, hQ q H' hq e ?_⟩
    have e1 : ((n : Int) + 1).toNat = n + 1 := by omega
    rw [e1] at hL
    exact hL
end
end K49

namespace K49
open PySem PySem.Spec PyProof.Rows L2
open Evl (Ex)
def nkB (l : List Bool) : NestedKey := .tup (l.map fun b => .num (if b = true then 1 else 0))
def nkR (r : List (List Bool)) : NestedKey := .tup (r.map nkB)
theorem num_inj : ∀ {l m : List Bool}, (l.map fun b => NestedKey.num (if b = true then 1 else 0)) = (m.map fun b => NestedKey.num (if b = true then 1 else 0)) → l = m
  | [], [], _ => rfl
  | [], _ :: _, h => by cases h
  | _ :: _, [], h => by cases h
  | x :: l, y :: m, h => by
    rw [List.map_cons, List.map_cons] at h
    injection h with h1 h2
    injection h1 with h1
    have e : x = y := by revert h1; cases x <;> cases y <;> decide
    rw [e, num_inj h2]
theorem nkB_inj {l m : List Bool} (h : nkB l = nkB m) : l = m := by
  unfold nkB at h
  injection h with h
  exact num_inj h
theorem nkB_injs : ∀ {l m : List (List Bool)}, l.map nkB = m.map nkB → l = m
  | [], [], _ => rfl
  | [], _ :: _, h => by cases h
  | _ :: _, [], h => by cases h
  | x :: l, y :: m, h => by
    rw [List.map_cons, List.map_cons] at h
    injection h with h1 h2
    rw [nkB_inj h1, nkB_injs h2]
theorem nkR_inj {l m : List (List Bool)} (h : nkR l = nkR m) : l = m := by
  unfold nkR at h
  injection h with h
  exact nkB_injs h
theorem nkB_depth (l : List Bool) : (nkB l).depth ≤ 4 := by
  have h : ∀ l : List Bool, NestedKey.depthAll (l.map fun b => .num (if b = true then 1 else 0)) ≤ 3 := fun l => by
    induction l with
    | nil => simp [NestedKey.depthAll]
    | cons b l ih =>
      simp only [List.map_cons, NestedKey.depthAll, NestedKey.depth]
      omega
  have := h l
  simp only [nkB, NestedKey.depth]
  omega
theorem nkR_depth (r : List (List Bool)) : (nkR r).depth ≤ 8 := by
  have h : ∀ r : List (List Bool), NestedKey.depthAll (r.map nkB) ≤ 7 := fun r => by
    induction r with
    | nil => simp [NestedKey.depthAll]
    | cons b l ih =>
      have := nkB_depth b
      simp only [List.map_cons, NestedKey.depthAll]
      omega
  have := h r
  simp only [nkR, NestedKey.depth]
  omega
/-- the tuple at a is the key k -/
def KeyAt (H : Hp) (k : NestedKey) (a : Addr) : Prop := (∃ l, k = nkB l ∧ H a = some (.tup (l.map V.bl))) ∨ ∃ r xs, k = nkR r ∧ H a = some (.tup xs) ∧ All IsB H xs r
theorem KeyAt.mono {H H' : Hp} {k : NestedKey} {a : Addr} (e : TEx H H') (h : KeyAt H k a) : KeyAt H' k a := by
  rcases h with ⟨l, h1, h2⟩ | ⟨r, xs, h1, h2, h3⟩
  · exact .inl ⟨l, h1, e _ _ h2⟩
  · exact .inr ⟨r, xs, h1, e _ _ h2, h3.tmono tst_B e⟩
section
variable {P : Program} {w : World} {H : Hp} {h : Heap}
theorem nis_B (ok : HOk P w H h) {a : Addr} {l : List Bool} (e : H a = some (.tup (l.map V.bl))) : NestedIs h (nkB l) (.ref a) := by
  obtain ⟨z0, its, r, o, h1, h2, n, h3⟩ := (show ObjOk P w H h a (.tup (l.map V.bl)) from ok a _ e)
  refine .tup h1 h2 h3 ?_
  have z : its.toArray.toList = its := by simp
  rw [z]
  clear e h1 h2 h3 z z0
  induction l generalizing its with
  | nil => cases r; exact .nil
  | cons b l ih =>
    cases r with
    | cons rb rl =>
      refine .cons ?_ (ih _ rl)
      obtain rfl : _ = Value.bool b := rb
      exact .bool rfl
theorem nis_R (ok : HOk P w H h) {a : Addr} {r : List (List Bool)} {xs : List V} (e : H a = some (.tup xs)) (hx : All IsB H xs r) : NestedIs h (nkR r) (.ref a) := by
  obtain ⟨z0, its, rl, o, h1, h2, n, h3⟩ := (show ObjOk P w H h a (.tup xs) from ok a _ e)
  refine .tup h1 h2 h3 ?_
  have z : its.toArray.toList = its := by simp
  rw [z]
  clear e h1 h2 h3 z z0
  induction hx generalizing its with
  | nil => cases rl; exact .nil
  | cons q t ih =>
    cases rl with
    | cons rb rl =>
      obtain ⟨b, rfl, hb⟩ := q
      obtain rfl : _ = Value.ref b := rb
      exact .cons (nis_B ok hb) (ih _ rl)
theorem KeyAt.is (ok : HOk P w H h) {k : NestedKey} {a : Addr} (q : KeyAt H k a) : (nestedKind P w).is h k a := by
  rcases q with ⟨l, rfl, h2⟩ | ⟨r, xs, rfl, h2, h3⟩
  · exact ⟨nis_B ok h2, Nat.le_trans (nkB_depth l) (by decide)⟩
  · exact ⟨nis_R ok h2 h3, nkR_depth r⟩
end
abbrev Ent := NestedKey × Addr × V
abbrev RelE : List Ent → List (NestedKey × Addr × Value) → Prop := Paired fun p q => p.1 = q.1 ∧ p.2.1 = q.2.1 ∧ RelV p.2.2 q.2.2
def hasX (xs : List Ent) (k : NestedKey) : Bool := xs.any fun x => decide (x.1 = k)
def atX (xs : List Ent) (k : NestedKey) : Option V := (xs.find? fun x => decide (x.1 = k)).map (·.2.2)
def putX (xs : List Ent) (k : NestedKey) (a : Addr) (v : V) : List Ent := if hasX xs k = true then xs.map fun x => if x.1 = k then (x.1, x.2.1, v) else x else xs ++ [(k, a, v)]
theorem RelE.atKey {xs : List Ent} {vs : List (NestedKey × Addr × Value)} (r : RelE xs vs) (k : NestedKey) : RelO (atX xs k) ((atKey vs k).map (·.2)) := by
  induction r with
  | nil => exact trivial
  | @cons p q ps qs hp t ih =>
    obtain ⟨e1, e2, e3⟩ := hp
    by_cases h : p.1 = k
    · have h' : q.1 = k := e1 ▸ h
      simp only [atX, PySem.atKey, List.find?_cons, h, h', decide_true, Option.map_some]
      exact e3
    · have h' : ¬ q.1 = k := e1 ▸ h
      simp only [atX, PySem.atKey, List.find?_cons, h, h', decide_false] at ih ⊢
      exact ih
theorem hasX_at (xs : List Ent) (k : NestedKey) : hasX xs k = (atX xs k).isSome := by
  induction xs with
  | nil => rfl
  | cons p ps ih =>
    by_cases h : p.1 = k
    · simp [hasX, atX, h]
    · simpa [hasX, atX, h] using ih
theorem RelE.has {xs : List Ent} {vs : List (NestedKey × Addr × Value)} (r : RelE xs vs) (k : NestedKey) : hasX xs k = (PySem.atKey vs k).isSome := by
  have z := (r.atKey k).isSome_eq
  rw [Option.isSome_map] at z
  rw [hasX_at, z]
theorem RelE.put {xs : List Ent} {vs : List (NestedKey × Addr × Value)} (r : RelE xs vs) (k : NestedKey) (a : Addr) {y : V} {u : Value} (ry : RelV y u) : RelE (putX xs k a y) (storedH vs k a u) := by
  have m : ∀ {xs : List Ent} {vs : List (NestedKey × Addr × Value)}, RelE xs vs → RelE (xs.map fun x => if x.1 = k then (x.1, x.2.1, y) else x) (vs.map (putAt k u)) := fun r => by
    induction r with
    | nil => exact .nil
    | @cons p q ps qs hp t ih =>
      obtain ⟨e1, e2, e3⟩ := hp
      refine .cons ?_ ih
      by_cases h : p.1 = k
      · have h' : q.1 = k := e1 ▸ h
        simp only [putAt, if_pos h, if_pos h']
        exact ⟨e1, e2, ry⟩
      · have h' : ¬ q.1 = k := e1 ▸ h
        simp only [putAt, if_neg h, if_neg h']
        exact ⟨e1, e2, e3⟩
  unfold putX storedH
  rw [r.has k]
  split
  · exact m r
  · exact paired_app r (.cons ⟨rfl, rfl, ry⟩ .nil)
theorem length_putX (xs : List Ent) (k : NestedKey) (a : Addr) (v : V) : (putX xs k a v).length ≤ xs.length + 1 := by
  unfold putX
  split
  · rw [List.length_map]; omega
  · rw [List.length_append]; exact Nat.le_refl _
theorem mem_putX {xs : List Ent} {k : NestedKey} {a : Addr} {v : V} {x : Ent} (h : x ∈ putX xs k a v) : x ∈ xs ∨ (x.1 = k ∧ x.2.2 = v ∧ ((∃ y ∈ xs, y.1 = k ∧ y.2.1 = x.2.1) ∨ x.2.1 = a)) := by
  unfold putX at h
  split at h
  · obtain ⟨y, hy, e⟩ := List.mem_map.mp h
    by_cases z : y.1 = k
    · rw [if_pos z] at e
      subst e
      exact .inr ⟨z, rfl, .inl ⟨y, hy, z, rfl⟩⟩
    · rw [if_neg z] at e
      subst e
      exact .inl hy
  · rcases List.mem_append.mp h with z | z
    · exact .inl z
    · have e := List.mem_singleton.mp z
      subst e
      exact .inr ⟨rfl, rfl, .inr rfl⟩
theorem atX_mem {xs : List Ent} {k : NestedKey} {v : V} (h : atX xs k = some v) : ∃ a, (k, a, v) ∈ xs := by
  unfold atX at h
  obtain ⟨p, hp, rfl⟩ := Option.map_eq_some_iff.mp h
  have h1 := List.mem_of_find?_eq_some hp
  have h2 := List.find?_some hp
  have e : p.1 = k := of_decide_eq_true h2
  subst e
  exact ⟨p.2.1, h1⟩
/-- the dict with these entries -/
def DKO (P : Program) (w : World) (d : Addr) (xs : List Ent) : HO := .ext fun h => xs.length ≤ sizeLine ∧ (d == sysModules) = false ∧ ∃ vs : List (NestedKey × Addr × Value), RelE xs vs ∧
  ∃ o es ep, h.get? d = some o ∧ o.ExactDict ∧ o.data = .dict es ep ∧ es.toList = vs.map (entryOfKey (nestedKind P w)) ∧ (vs.map (·.1)).Nodup
/-- the keys stand -/
def KsAt (H : Hp) (xs : List Ent) : Prop := ∀ x ∈ xs, KeyAt H x.1 x.2.1
theorem KsAt.mono {H H' : Hp} {xs : List Ent} (e : TEx H H') (h : KsAt H xs) : KsAt H' xs := fun x hx => (h x hx).mono e
theorem KsAt.put {H : Hp} {xs : List Ent} {k : NestedKey} {a : Addr} {v : V} (h : KsAt H xs) (hk : KeyAt H k a) : KsAt H (putX xs k a v) := fun x hx => by
  rcases mem_putX hx with z | ⟨e, _, ⟨y, hy, e1, e2⟩ | e2⟩
  · exact h x z
  · rw [e, ← e2, ← e1]
    exact h y hy
  · rw [e, e2]
    exact hk
section
variable {P : Program} {w : World} {H : Hp} {h : Heap} {d : Addr} {xs : List Ent}
theorem dko_of (ok : HOk P w H h) (e : H d = some (DKO P w d xs)) (ks : KsAt H xs) : xs.length ≤ sizeLine ∧ (d == sysModules) = false ∧ ∃ vs, RelE xs vs ∧ h.DictOfH (nestedKind P w) d vs := by
  obtain ⟨⟨z, y, vs, r, o, es, ep, h1, h2, h3, h4, h5⟩, _, _⟩ := (show ObjOk P w H h d (.ext _) from ok d _ e)
  refine ⟨z, y, vs, r, o, es, ep, h1, h2, h3, h4, fun x hx => ?_, h5⟩
  have all : ∀ {l : List Ent} {m : List (NestedKey × Addr × Value)}, RelE l m → (∀ x ∈ l, KeyAt H x.1 x.2.1) → ∀ x ∈ m, (nestedKind P w).is h x.1 x.2.1 := by
    intro l m q
    induction q with
    | nil => intro _ x hx; exact nomatch hx
    | @cons p q ps qs hq t ih =>
      intro hk x hx
      rcases List.mem_cons.mp hx with e | hx
      · subst e
        rw [← hq.1, ← hq.2.1]
        exact (hk p (List.mem_cons_self ..)).is ok
      · exact ih (fun y hy => hk y (List.mem_cons_of_mem _ hy)) x hx
  exact all r ks x hx
theorem dko_ok {P : Program} {w : World} {H : Hp} {h : Heap} (z : xs.length ≤ sizeLine) (hd : (d == sysModules) = false) {vs : List (NestedKey × Addr × Value)} (r : RelE xs vs) (dd : h.DictOfH (nestedKind P w) d vs) : ObjOk P w H h d (DKO P w d xs) := by
  obtain ⟨o, es, ep, h1, h2, h3, h4, _, h5⟩ := dd
  refine ⟨⟨z, hd, vs, r, o, es, ep, h1, h2, h3, h4, h5⟩, ⟨o, h1⟩, fun g1 g2 q st => ?_⟩
  obtain ⟨z, hd, vs, r, o, es, ep, h1, h2⟩ := q
  exact ⟨z, hd, vs, r, o, es, ep, st _ h1, h2⟩
/-- the dict's keys are told apart -/
theorem dko_nodup (ok : HOk P w H h) (e : H d = some (DKO P w d xs)) : (xs.map (·.1)).Nodup := by
  obtain ⟨⟨z, y, vs, r, o, es, ep, h1, h2, h3, h4, h5⟩, _, _⟩ := (show ObjOk P w H h d (.ext _) from ok d _ e)
  have m : ∀ {l : List Ent} {m : List (NestedKey × Addr × Value)}, RelE l m → l.map (·.1) = m.map (·.1) := fun q => by
    induction q with
    | nil => rfl
    | cons hq t ih => rw [List.map_cons, List.map_cons, hq.1, ih]
  rw [m r]
  exact h5
end
section
variable {X : Cx} {pins : List (Addr × Obj)} {σ : L2.St} {H : Hp} {s : Shared}
/-- {} -/
def tNewX (P : Program) (w : World) : TE := fun _ H Q => ∀ p, H p = none → Q (.ref p) (upd H p (DKO P w p []))
theorem pe_dnewX {pos : Pos} {P : Program} {w : World} (e1 : X.prog = P := by rfl) (e2 : X.w = w := by rfl) : PE X (.Dict [] [] pos) (tNewX P w) := ⟨fun pins s σ H Q I h => by
  subst e1 e2
  refine wpAny_Dict_empty ⟨.ref s.heap.objs.size, _, I.laid (a := s.heap.objs.size) (o := DKO X.prog X.w s.heap.objs.size []) (t' := s.toks) (fun _ _ q => Heap.get?_push_of_some _ q) (Nat.le_refl _) ?_, rfl, h _ (I.hok.fresh (Nat.le_refl _))⟩
  exact dko_ok (Nat.zero_le _) (beq_eq_false_iff_ne.mpr (Ne.symm (Nat.ne_of_lt I.big))) .nil (Heap.DictOfH.new s.heap)⟩
/-- k not in d -/
def rNotInX (P : Program) (w : World) : R2 := fun y x H Q => ∃ d b k xs, x = .ref d ∧ y = .ref b ∧ KeyAt H k b ∧ H d = some (DKO P w d xs) ∧ KsAt H xs ∧ Q (.bl (!hasX xs k)) H
theorem op_notInX {P : Program} {w : World} (hu : X.A.units + 9 < cLine) (e1 : X.prog = P := by rfl) (e2 : X.w = w := by rfl) : OpR X (compareOp .NotIn) (rNotInX P w) := by
  subst e1 e2
  intro pins s σ H y x u v Q I ry rx h
  obtain ⟨d, b, k, xs, rfl, rfl, hk, hd, ks, q⟩ := h
  obtain rfl : v = Value.ref d := rx
  obtain rfl : u = Value.ref b := ry
  obtain ⟨z, hy, vs, r, dd⟩ := dko_of I.hok hd ks
  refine wpAny_notIn_heap (knd := nestedKind X.prog X.w) (show X.A.units + 1 + 8 < cLine by omega) (hk.is I.hok) hy dd ?_
  rw [← r.has k]
  exact ⟨.bl (!hasX xs k), H, I.tok _, rfl, q⟩
/-- d[k] -/
def rIxX (P : Program) (w : World) : R2 := fun x y H Q => ∃ d b k xs v, x = .ref d ∧ y = .ref b ∧ KeyAt H k b ∧ H d = some (DKO P w d xs) ∧ KsAt H xs ∧ atX xs k = some v ∧ Q v H
theorem pe_ixX {P : Program} {w : World} {o i : Expr} {pos : Pos} {td ty : TE} (hu : X.A.units + 9 < cLine) (ho : PE X o td) (hi : PE X i ty) (hs : NoSl i) (e1 : X.prog = P := by rfl) (e2 : X.w = w := by rfl) : PE X (.Subscript o i pos) (tOp (rIxX P w) td ty) := by
  subst e1 e2
  refine ⟨fun pins s σ H Q I h => ?_⟩
  refine subD_of PySem.F.slot_dict_getitem.lookup hs (thn (ho.run pins s σ H _ I h) fun u s1 ⟨x, H1, I1, rx, q1⟩ => thn (hi.run pins s1 σ H1 _ I1 q1) fun iv s2 ⟨y, H2, I2, ry, q2⟩ => ?_)
  obtain ⟨d, b, k, xs, v, rfl, rfl, hk, hd, ks, hv, q⟩ := q2
  obtain rfl : u = Value.ref d := rx
  obtain rfl : iv = Value.ref b := ry
  obtain ⟨z, hy, vs, r, dd⟩ := dko_of I2.hok hd ks
  obtain ⟨w', hw, rw'⟩ := RelO.some_of (v := v) (o := (PySem.atKey vs k).map (·.2)) (by rw [← hv]; exact r.atKey k)
  obtain ⟨p, hp, hp2⟩ := Option.map_eq_some_iff.mp hw
  refine ⟨dd.typeIs, wpAny_getItem_heap (knd := nestedKind X.prog X.w) (show X.A.units + 1 + 8 < cLine by omega) (hk.is I2.hok) dd hp ?_⟩
  rw [hp2]
  exact ⟨v, H2, I2.tok _, rw', q⟩
/-- d[k] = v -/
def rSetX (P : Program) (w : World) : TSet := fun o i v H Q => ∃ d b k xs, o = .ref d ∧ i = .ref b ∧ KeyAt H k b ∧ H d = some (DKO P w d xs) ∧ KsAt H xs ∧ xs.length < sizeLine ∧ Q (upd H d (DKO P w d (putX xs k b v)))
theorem set_X {P : Program} {w : World} (hu : X.A.units + 9 < cLine) (e1 : X.prog = P := by rfl) (e2 : X.w = w := by rfl) : PSet X (rSetX P w) := by
  subst e1 e2
  intro pins s σ H o i v ov iv u Q I ro ri rv h
  obtain ⟨d, b, k, xs, rfl, rfl, hk, hd, ks, hz, q⟩ := h
  obtain rfl : ov = Value.ref d := ro
  obtain rfl : iv = Value.ref b := ri
  obtain ⟨z, hy, vs, r, dd⟩ := dko_of I.hok hd ks
  have hzv : vs.length ≤ sizeLine := by rw [← Paired.length r]; exact z
  refine wpAny_setItem_heap (knd := nestedKind X.prog X.w) (hsz := hzv) (show X.A.units + 1 + 8 < cLine by omega) (hk.is I.hok) dd fun h' dd' hs => ?_
  have he : ∃ q, h'.get? d = some q := let ⟨q, _, _, hq, _⟩ := dd'; ⟨q, hq⟩
  exact ⟨_, d_write I (by rw [hd]; exact True.intro) hs he (dko_ok (by have := length_putX xs k b v; omega) hy (r.put k b rv) dd'), q⟩
end
end K49

namespace K49
open PySem PySem.Spec PyProof.Rows L2
open Evl (Ex)
section
variable {X : Cx}
/-- one store of a comprehension -/
theorem setX_in {Y : Cx} {pins : List (Addr × Obj)} {σ : L2.St} {H : Hp} {s : Shared} {E : Value → Shared → Prop} {D b : Addr} {xs : List Ent} {k : NestedKey} {v : V} {u r : Value} {Q : Unit → Shared → Prop} (hu : Y.A.units + 9 < cLine) (I : Inv Y pins σ H s)
    (hD : H D = some (DKO Y.prog Y.w D xs)) (ks : KsAt H xs) (hk : KeyAt H k b) (hz : xs.length < sizeLine) (ry : RelV (.ref b) u) (rv : RelV v r) (h : ∀ s', Inv Y pins σ (upd H D (DKO Y.prog Y.w D (putX xs k b v))) s' → Q () s') : wpAny (model Y.prog Y.w) Y.A (dictSet D u r) Q E s := by
  obtain rfl : u = Value.ref b := ry
  obtain ⟨z, hy, vs, rel, dd⟩ := dko_of I.hok hD ks
  have hzv : vs.length ≤ sizeLine := by rw [← Paired.length rel]; exact z
  refine wpAny_dictSet_heap (knd := nestedKind Y.prog Y.w) (hsz := hzv) (show Y.A.units + 8 < cLine by omega) (hk.is I.hok) dd fun h' dd' hs => h _ ?_
  have he : ∃ q, h'.get? D = some q := let ⟨q, _, _, hq, _⟩ := dd'; ⟨q, hq⟩
  exact d_write I (by rw [hD]; exact True.intro) hs he (dko_ok (by have := length_putX xs k b v; omega) hy (rel.put k b rv) dd')
def tDcX (P : Program) (w : World) (wi : TI) (g : TG) (tt : TT) (tk tv : TE) (vs : List Nat) : TE := fun σ H Q => wi σ H fun J H1 => ∀ D, H1 D = none → ∃ W : Nat → Nat → Hp → Prop, (∃ m, W 0 m (upd H1 D (DKO P w D []))) ∧ ∀ i m H, W i m H →
  (J.stop i H ∧ Q (.ref D) H) ∨ (J.go i H ∧ ∃ Nx : Hp → Prop, (∀ H', Nx H' → ∃ m', m' < m ∧ W (i + 1) m' H') ∧ ∀ x H', J.yld i H x H' → g x (wipe σ vs) H' fun σ2 H2 => wipe σ2 vs = wipe σ vs ∧ tt σ2 H2 fun b H3 =>
    if b = true then tk σ2 H3 fun y H4 => tv σ2 H4 fun z H5 => ∃ xs k b, y = .ref b ∧ KeyAt H5 k b ∧ H5 D = some (DKO P w D xs) ∧ KsAt H5 xs ∧ xs.length < sizeLine ∧ Nx (upd H5 D (DKO P w D (putX xs k b z))) else Nx H3)
theorem dcX_core {P : Program} {w : World} {pins : List (Addr × Obj)} {s : Shared} {σ : L2.St} {H : Hp} {Q : VK} {use : Option (Value → Sem Unit)} {Qf : Value → Shared → Prop} {pos' : Pos} {kx vx tg iter : Expr} {ifs : List Expr} {scope : Scope} {own : List (Str × Nat)} {pos : Pos} {wi : TI} {g : TG} {tt : TT} {tk tv : TE} (hu : X.A.units + 9 < cLine) (hc : X.calm = true) (hN : X.N.Nodup) (hi : PI X tg iter wi) (ok : BlkOk X.N X.env.scope scope own)
    (hg : ∀ (s : Shared) (H : Hp) (C : Addr) (cl : List (Str × Addr)) (fp : List Addr), PG (X.blk s H scope (compEnvC scope cl C X.env) fp) tg g) (ht : ∀ (s : Shared) (H : Hp) (C : Addr) (cl : List (Str × Addr)) (fp : List Addr), PTs (X.blk s H scope (compEnvC scope cl C X.env) fp) ifs tt)
    (hk : ∀ (s : Shared) (H : Hp) (C : Addr) (cl : List (Str × Addr)) (fp : List Addr), PE (X.blk s H scope (compEnvC scope cl C X.env) fp) kx tk)
    (he : ∀ (s : Shared) (H : Hp) (C : Addr) (cl : List (Str × Addr)) (fp : List Addr), PE (X.blk s H scope (compEnvC scope cl C X.env) fp) vx tv) (hs : ∀ x, foldedSetIterable iter X.env x = pure x) (I : Inv X pins σ H s) (h : tDcX X.prog X.w wi g tt tk tv (own.map (·.2)) σ H Q)
    (hRR : ∀ D C s' m H', Inv X pins σ H' s' → Q (.ref D) H' → s'.heap.Ns C m → FpOk X pins H' C → compPost (model X.prog X.w) X.A X.xe use Qf (.ref D) C (.ok .next) s') :
    wpAny (model X.prog X.w) X.A (comprehension (.DictComp kx vx [⟨tg, iter, ifs, 0⟩] scope pos) scope X.env pos' newDict false (eval iter X.env) use) Qf X.xe s := by
  have hfree : ∀ y ∈ scope.names, y.2 = .free → ∃ c, X.env.cells.lookup y.1 = some c := fun y hy e => (ok.free y hy e).elim (fun k => I.ok.has _ (.inl k)) fun k => I.ok.has _ (.inr k)
  refine wpAny_comprehension_free (use := use) rfl hs (closure_ok hfree) ok.kind (fun y hy e => by rw [ok.uniq y hy, e]) (thn (hi.run pins s σ H _ I h) fun xv s1 hx => thn hx fun itv s2 h2 => ?_)
  obtain ⟨it, fp, tn, J, H2, e, I2, T, st2, f2, q⟩ := h2
  subst e
  refine wpAny_newObj_type (newEnv_comp ?_)
  generalize hD : s2.heap.objs.size = D
  have hDn : H2 D = none := I2.hok.fresh (Nat.le_of_eq hD)
  obtain ⟨W, ⟨m0, w0⟩, turn⟩ := q D hDn
  generalize hs3 : ({ s2 with heap := s2.heap.push { cls := .type "dict", data := .dict #[] } } : Shared) = s3
  have h3 : s3.heap = s2.heap.push { cls := .type "dict", data := .dict #[] } := by rw [← hs3]
  have hnew : ObjOk X.prog X.w (upd H2 D (DKO X.prog X.w D [])) (s2.heap.push { cls := .type "dict", data := .dict #[] }) D (DKO X.prog X.w D []) := by
    rw [← hD]
    exact dko_ok (Nat.zero_le _) (beq_eq_false_iff_ne.mpr (Ne.symm (Nat.ne_of_lt I2.big))) .nil (Heap.DictOfH.new s2.heap)
  have I3 : Inv X pins σ (upd H2 D (DKO X.prog X.w D [])) s3 := by
    rw [← hs3]
    exact I2.laid (t' := s2.toks) (fun b o e => Heap.get?_push_of_some _ e) (Nat.le_of_eq hD) hnew
  have f3 : ∀ b ∈ fp, FpOk X pins (upd H2 D (DKO X.prog X.w D [])) b ∧ b < s3.heap.objs.size := fun b hb => by
    obtain ⟨o, e, _⟩ := T.obj _ _ st2 b hb
    have hlt := Heap.lt_size e
    refine ⟨⟨?_, (f2 b hb).2⟩, by rw [h3, Heap.size_push]; exact Nat.lt_succ_of_lt hlt⟩
    rw [upd_ne (by rw [← hD]; exact Nat.ne_of_lt hlt)]
    exact (f2 b hb).1
  have st3 : tn 0 s3.heap := T.keep _ _ _ st2 fun b _ o e => by rw [h3]; exact Heap.get?_push_of_some _ e
  have nfp : ∀ b ∈ fp, (upd H2 D (DKO X.prog X.w D [])) b = none := fun b hb => (f3 b hb).1.1
  have I4 := block_start I3 ok hN f3
  have pg := hg s3 (upd H2 D (DKO X.prog X.w D [])) s3.heap.objs.size (cellsFrom (s3.heap.objs.size + 1) scope.names (cloFrom X.env.cells scope.names [])) fp
  have pt := ht s3 (upd H2 D (DKO X.prog X.w D [])) s3.heap.objs.size (cellsFrom (s3.heap.objs.size + 1) scope.names (cloFrom X.env.cells scope.names [])) fp
  have pk := hk s3 (upd H2 D (DKO X.prog X.w D [])) s3.heap.objs.size (cellsFrom (s3.heap.objs.size + 1) scope.names (cloFrom X.env.cells scope.names [])) fp
  have pe := he s3 (upd H2 D (DKO X.prog X.w D [])) s3.heap.objs.size (cellsFrom (s3.heap.objs.size + 1) scope.names (cloFrom X.env.cells scope.names [])) fp
  generalize hce : compEnvC scope (cellsFrom (s3.heap.objs.size + 1) scope.names (cloFrom X.env.cells scope.names [])) s3.heap.objs.size X.env = ce at I4 pg pt pk pe
  have cL : ce.locals = s3.heap.objs.size := by subst hce; rfl
  generalize hs4 : ({ s3 with heap := pushCells (s3.heap.push { cls := .type "dict", data := .dict #[] }) scope.names } : Shared) = s4 at I4
  have st4 : tn 0 s4.heap := T.keep _ _ _ st3 fun b _ o e => by rw [← hs4]; exact pushCells_keeps _ _ _ _ (Heap.get?_push_of_some _ e)
  generalize hH3 : upd H2 D (DKO X.prog X.w D []) = H3 at I3 I4 pg pt pk pe w0 nfp f3
  have stat : ∀ {σ' : L2.St} {H' : Hp} {s' : Shared}, Inv (X.blk s3 H3 scope ce fp) [] σ' H' s' → (∀ b ∈ fp, H' b = none) → ∀ b ∈ fp, FpOk (X.blk s3 H3 scope ce fp) [] H' b := fun {σ' H' s'} I' hn b hb =>
    ⟨hn b hb, (I'.ok.exf b hb).1, I'.ok.exfs b hb, .inl hb, fun x c e => (I'.ok.exf b hb).2 x c e, fun p hp => absurd (show p ∈ ([] : List (Addr × Obj)) ++ [] from hp) (by simp)⟩
  have loop : codeAny (model X.prog X.w) X.A (.compLoop (.DictComp kx vx [⟨tg, iter, ifs, 0⟩] scope pos) 0 (.ref it) (.ref D) ce) (compPost (model X.prog X.w) X.A X.xe use Qf (.ref D) s3.heap.objs.size) s4 := by
    refine compLoop_anyD (fun n s' => ∃ i H', Inv (X.blk s3 H3 scope ce fp) [] (wipe σ (own.map (·.2))) H' s' ∧ tn i s'.heap ∧ (∀ b ∈ fp, H' b = none) ∧ W i n H') ?_ m0 ⟨0, H3, I4, st4, nfp, w0⟩
    rintro n s5 ⟨i, H5, I5, st5, n5, w5⟩
    rcases turn i n H5 w5 with ⟨stop, qq⟩ | ⟨go, Nx, hNx, step⟩
    · refine thnF (T.done (X.blk s3 H3 scope ce fp) rfl rfl rfl hc i [] s5 _ H5 (fun _ _ => False) I5 (stat I5 n5) st5 stop) fun r s6 ⟨hr, I6⟩ => ?_
      subst hr
      have I7 : Inv X pins σ H5 s6 := I3.call' (ch := fp) I6.os I6.base I6.hok I6.bare fun b hb => ⟨(f3 b hb).1.2.2.2.1, (f3 b hb).1.2.1, (f3 b hb).1.2.2.2.2.1, (f3 b hb).1.2.2.2.2.2⟩
      have nC : H5 ce.locals = none := I6.free
      obtain ⟨m, hn, _⟩ := I6.loc
      have hn : s6.heap.Ns ce.locals m := hn
      rw [cL] at hn nC
      exact hRR D s3.heap.objs.size s6 m H5 I7 qq hn (I3.fpOk (Nat.le_refl _) nC)
    · refine thnF (T.item (X.blk s3 H3 scope ce fp) rfl rfl rfl hc i [] s5 _ H5 (fun _ _ => False) I5 (stat I5 n5) st5 go) fun r s6 ⟨u, hr, h6⟩ => ?_
      subst hr
      refine thnF h6 fun _ s7 ⟨x, H7, I7, r7, y7, st7, n7⟩ => ?_
      have I7' := I7.pinned (stat I7 n7) (T.obj _ _ st7)
      refine thnF (pg.run _ s7 _ H7 x u _ I7' r7 (step x H7 y7)) fun _ s8 ⟨σ8, H8, I8, hw8, q8⟩ => ?_
      refine thnF (pt.run _ s8 σ8 H8 _ I8 q8) fun b s9 ⟨H9, I9, q9⟩ => ?_
      have fin : ∀ {s' : Shared} {H' : Hp}, Inv (X.blk s3 H3 scope ce fp) ([] ++ pinsAt fp s7.heap) σ8 H' s' → Nx H' → ∃ m, m < n ∧ ∃ i H', Inv (X.blk s3 H3 scope ce fp) [] (wipe σ (own.map (·.2))) H' s' ∧ tn i s'.heap ∧ (∀ b ∈ fp, H' b = none) ∧ W i m H' := fun {s' H'} I' nx => by
        obtain ⟨m', hm, w'⟩ := hNx H' nx
        have pin' : ∀ b ∈ fp, ∀ o, s7.heap.get? b = some o → s'.heap.get? b = some o ∧ H' b = none := fun b hb o e =>
          let z := I'.pin (b, o) (List.mem_append_right _ (List.mem_append_right _ (mem_pinsAt hb e)))
          ⟨z.1, z.2.1⟩
        have hl : (wipe σ (own.map (·.2))).length = σ8.length := by rw [← hw8, wipe_length]
        refine ⟨m', hm, i + 1, H', (I'.unpinned (pins := [])).weak hl (fun j v e => ?_), T.keep _ _ _ st7 fun b hb o e => (pin' b hb o e).1, fun b hb => ?_, w'⟩
        · rw [← hw8] at e
          exact (wipe_some e).1
        · obtain ⟨o, e, _⟩ := T.obj _ _ st7 b hb
          exact (pin' b hb o e).2
      cases b with
      | false =>
        simp only [Bool.false_eq_true, if_false] at q9 ⊢
        exact fin I9 q9
      | true =>
        simp only [if_true] at q9 ⊢
        refine thnF (pk.run _ s9 σ8 H9 _ I9 q9) fun z s10 ⟨yk, H10, I10, r10, q10⟩ => thnF (pe.run _ s10 σ8 H10 _ I10 q10) fun z2 s11 ⟨yv, H11, I11, r11, xs, k, b, ek, hk11, hD11, ks11, hz11, nx⟩ => ?_
        subst ek
        exact setX_in (Y := X.blk s3 H3 scope ce fp) hu I11 hD11 ks11 hk11 hz11 r10 r11 fun s12 I12 => fin I12 nx
  subst hce hs4
  exact codeAny_compStart_dict loop (T.self X.A 0 _ _ _ st4 loop)
theorem ps_setDcX {P : Program} {w : World} {i : Nat} {y : Str} {py : Pos} {kx vx tg iter : Expr} {ifs : List Expr} {scope : Scope} {own : List (Str × Nat)} {pos spos : Pos} {wi : TI} {g : TG} {tt : TT} {tk tv : TE} (hu : X.A.units + 9 < cLine) (hc : X.calm = true) (hN : X.N.Nodup) (hy : X.N[i]? = some y) (hyl : X.env.scope.names.lookup y = some .local)
    (hsw : swapsWith (.DictComp kx vx [⟨tg, iter, ifs, 0⟩] scope pos) (some (.Name y py)) spos.line X.env = pure true) (hi : PI X tg iter wi) (ok : BlkOk X.N X.env.scope scope own)
    (hg : ∀ (s : Shared) (H : Hp) (C : Addr) (cl : List (Str × Addr)) (fp : List Addr), PG (X.blk s H scope (compEnvC scope cl C X.env) fp) tg g) (ht : ∀ (s : Shared) (H : Hp) (C : Addr) (cl : List (Str × Addr)) (fp : List Addr), PTs (X.blk s H scope (compEnvC scope cl C X.env) fp) ifs tt)
    (hk : ∀ (s : Shared) (H : Hp) (C : Addr) (cl : List (Str × Addr)) (fp : List Addr), PE (X.blk s H scope (compEnvC scope cl C X.env) fp) kx tk)
    (he : ∀ (s : Shared) (H : Hp) (C : Addr) (cl : List (Str × Addr)) (fp : List Addr), PE (X.blk s H scope (compEnvC scope cl C X.env) fp) vx tv) (hs : ∀ x, foldedSetIterable iter X.env x = pure x := by intro _; rfl) (e1 : X.prog = P := by rfl) (e2 : X.w = w := by rfl) :
    PS X (.Assign [.Name y py] (.DictComp kx vx [⟨tg, iter, ifs, 0⟩] scope pos) spos) (tAsg (tDcX P w wi g tt tk tv (own.map (·.2))) (gName i)) := by
  subst e1 e2
  refine ⟨fun pins s σ H D I h => ?_⟩
  rw [exec_Assign_Name_used _ _ _ _ hsw]
  refine wpAny_bind (wpAny_standAt (wpAny_bind ?_))
  show wpAny _ X.A (do let _ ← comprehension (.DictComp kx vx [⟨tg, iter, ifs, 0⟩] scope pos) scope X.env (firstIterPos [⟨tg, iter, ifs, 0⟩] pos) newDict false (eval iter X.env) (some (assign (.Name y py) X.env))) _ _ s
  have h : tDcX X.prog X.w wi g tt tk tv (own.map (·.2)) σ H (fun x H1 => gName i x σ H1 D.nx) := h
  refine wpAny_bind (thn (dcX_core (P := X.prog) (w := X.w) (Qf := fun _ s' => SP X pins D .next s') hu hc hN hi ok hg ht hk he hs I h fun L C s' m H' I' q hn f => ?_) fun _ s' hq => wpAny_pure (wpAny_pure hq))
  show wpAny _ _ (assign (.Name y py) X.env (.ref L)) _ _ _
  refine wpAny_assign_Name (store_ok2 (v := V.ref L) I' hN hy (.inl hyl) rfl (fun s2 I2 ⟨a, sb, ha⟩ => ?_) (.inr hyl))
  obtain ⟨f0, f1, f2, f3, f4, f5⟩ := f
  have haC : C ≠ a := by
    rcases ha with z | z
    · rw [z]; exact f1
    · exact fun e => f4 y a z e.symm
  refine ⟨m, hn.sameBut sb haC, fun h3 sb3 => ?_⟩
  exact ⟨_, H', I2.turned (t' := s2.toks) (fun b o hb e => (sb3.2 b hb).trans e) f0 f1 f3 f4 f5, q⟩
theorem sw_trueD {kx vx : Expr} {gs : List Comprehension} {scope : Scope} {pos py : Pos} {y : Str} {l : Nat} {env : Env} (hk : env.scope.kind = .function) (hy : env.scope.names.lookup y = some .local) (hl : (py.line == pos.line) = true)
    (ha : (scope.names.any fun (n, k) => n == y && (k == .local || k == .cell)) = false) : swapsWith (.DictComp kx vx gs scope pos) (some (.Name y py)) l env = pure true := by
  have ky : env.kindOf y = some .local := hy
  have hb : env.blockKind = .function := by unfold Env.blockKind; rw [hk]; rfl
  unfold swapsWith
  simp only [hb, ky, ha, Expr.pos, hl]
  rfl
/-- len of it -/
def rLenX (P : Program) (w : World) : List V → Hp → VK → Prop := fun xs H Q => ∃ d es, xs = [.ref d] ∧ H d = some (DKO P w d es) ∧ KsAt H es ∧ Q (.int es.length) H
theorem klenX {P : Program} {w : World} (e1 : X.prog = P := by rfl) (e2 : X.w = w := by rfl) : CallR X (.builtin "len") (rLenX P w) := by
  subst e1 e2
  intro pins s σ H xs us Q I r h
  obtain ⟨d, es, rfl, hd, ks, q⟩ := h
  obtain ⟨u, rfl, ru⟩ := r.one
  obtain rfl : u = Value.ref d := ru
  obtain ⟨z, hy, vs, rel, dd⟩ := dko_of I.hok hd ks
  have hl := Paired.length rel
  refine call_len_dictH hy dd (by rw [← hl]; rw [sizeLine_eq] at z; omega) ?_
  exact ⟨.int es.length, H, I.tok _, ⟨_, by rw [hl]⟩, q⟩
end
section
variable {J : It} {n : Nat} {G : Hp → Prop} {Y : Nat → Hp → V → Hp → Prop} {P : Program} {w : World}
theorem dcX_it (wk : Walk J n G Y) {g : TG} {tt : TT} {tk tv : TE} {vs : List Nat} {σ : L2.St} {H1 : Hp} {D : Addr} {Qd : Hp → Prop} (Pv : Nat → Hp → Prop) (h0 : Pv 0 (upd H1 D (DKO P w D []))) (hG : ∀ i H, i ≤ n → Pv i H → G H)
    (hs : ∀ i x H H', i < n → Pv i H → Y i H x H' → g x (wipe σ vs) H' fun σ2 H2 => wipe σ2 vs = wipe σ vs ∧ tt σ2 H2 fun b H3 =>
      if b = true then tk σ2 H3 fun y H4 => tv σ2 H4 fun z H5 => ∃ xs k b, y = .ref b ∧ KeyAt H5 k b ∧ H5 D = some (DKO P w D xs) ∧ KsAt H5 xs ∧ xs.length < sizeLine ∧ Pv (i + 1) (upd H5 D (DKO P w D (putX xs k b z))) else Pv (i + 1) H3) (hd : ∀ H, Pv n H → Qd H) :
    ∃ W : Nat → Nat → Hp → Prop, (∃ m, W 0 m (upd H1 D (DKO P w D []))) ∧ ∀ i m H, W i m H →
      (J.stop i H ∧ Qd H) ∨ (J.go i H ∧ ∃ Nx : Hp → Prop, (∀ H', Nx H' → ∃ m', m' < m ∧ W (i + 1) m' H') ∧ ∀ x H', J.yld i H x H' → g x (wipe σ vs) H' fun σ2 H2 => wipe σ2 vs = wipe σ vs ∧ tt σ2 H2 fun b H3 =>
        if b = true then tk σ2 H3 fun y H4 => tv σ2 H4 fun z H5 => ∃ xs k b, y = .ref b ∧ KeyAt H5 k b ∧ H5 D = some (DKO P w D xs) ∧ KsAt H5 xs ∧ xs.length < sizeLine ∧ Nx (upd H5 D (DKO P w D (putX xs k b z))) else Nx H3) := by
  refine ⟨fun i m H => m = n - i ∧ i ≤ n ∧ Pv i H, ⟨n, by simp, Nat.zero_le _, h0⟩, ?_⟩
  rintro i m H ⟨rfl, hi, p⟩
  have q := hG i H hi p
  by_cases hlt : i < n
  · exact .inr ⟨wk.goes i H hlt q, Pv (i + 1), fun H' p' => ⟨n - (i + 1), by omega, rfl, hlt, p'⟩, fun x H' y => hs i x H H' hlt p (wk.yields i H x H' hlt q y)⟩
  · have e : i = n := by omega
    subst e
    exact .inl ⟨wk.stops H q, hd H p⟩
end
theorem TEx.dko {P : Program} {w : World} {H : Hp} {d : Addr} {xs : List Ent} (o : HO) (h : H d = some (DKO P w d xs)) : TEx H (upd H d o) := fun a ys e => by
  rw [upd_ne (ne_of e h (by intro z; cases z))]
  exact e
end K49

namespace K49
open PySem PySem.Spec PyProof.Rows L2
open C8 (Cal Met Mak pe_c pe_mk pe_mt pe_mt0 pe_gc)
open Evl (Ex)
theorem room9 {k : Nat} {A : Around} (hr : Room k A) : A.units + 9 < cLine := by
  have := hr.un
  omega
/-- the labels of a part -/
def pick (part : List Int) (l : List Bool) : List Bool := part.map fun i => l.getD i.toNat false
def addK (acc : List (List Bool)) (k : List Bool) : List (List Bool) := if acc.contains k then acc else acc ++ [k]
def dedup (ks : List (List Bool)) : List (List Bool) := ks.foldl addK []
def shat (rows : List (List Bool)) (part : List Int) : Bool := decide (((dedup (rows.map (pick part))).length : Int) = 2 ^ part.length)
/-- all indexes of a part are below n -/
def Below (n : Nat) (part : List Int) : Prop := ∀ x ∈ part, 0 ≤ x ∧ x < n
def spIsShattered : Sp := fun vs H Q _ => ∃ (r : Addr) (v : V) (rows : List (List Bool)) (part : List Int) (n : Nat), vs = [.ref r, v] ∧ Ls IsB H r rows ∧ IsP H v part ∧ part.length ≤ 6 ∧ rows.length ≤ 1000 ∧ Below n part ∧ (∀ l ∈ rows, l.length = n) ∧ RV (.bl (shat rows part)) H Q
theorem hasX_keys (xs : List Ent) (k : NestedKey) : hasX xs k = decide (k ∈ xs.map (·.1)) := by
  unfold hasX
  rw [Bool.eq_iff_iff, List.any_eq_true, decide_eq_true_iff, List.mem_map]
  exact ⟨fun ⟨x, h1, h2⟩ => ⟨x, h1, of_decide_eq_true h2⟩, fun ⟨x, h1, h2⟩ => ⟨x, h1, decide_eq_true h2⟩⟩
theorem keys_putX (xs : List Ent) (k : NestedKey) (a : Addr) (v : V) : (putX xs k a v).map (·.1) = if k ∈ xs.map (·.1) then xs.map (·.1) else xs.map (·.1) ++ [k] := by
  unfold putX
  rw [hasX_keys]
  by_cases h : k ∈ xs.map (·.1)
  · rw [if_pos (decide_eq_true h), if_pos h, List.map_map]
    refine List.map_congr_left fun x _ => ?_
    show (if x.1 = k then (x.1, x.2.1, v) else x).1 = x.1
    split <;> rfl
  · rw [if_neg (by rw [decide_eq_false h]; decide), if_neg h, List.map_append]
    rfl
theorem keys_add {xs : List Ent} {acc : List (List Bool)} (h : xs.map (·.1) = acc.map nkB) (k : List Bool) (a : Addr) (v : V) : (putX xs (nkB k) a v).map (·.1) = (addK acc k).map nkB := by
  rw [keys_putX, h]
  unfold addK
  by_cases z : k ∈ acc
  · rw [if_pos (List.mem_map.mpr ⟨k, z, rfl⟩), if_pos (List.contains_iff_mem.mpr z)]
  · rw [if_neg (fun q => by obtain ⟨m, h1, h2⟩ := List.mem_map.mp q; rw [nkB_inj h2] at h1; exact z h1), if_neg (fun q => z (List.contains_iff_mem.mp q)), List.map_append]
    rfl
theorem addK_len (acc : List (List Bool)) (k : List Bool) : (addK acc k).length ≤ acc.length + 1 := by
  unfold addK
  split
  · omega
  · rw [List.length_append]; exact Nat.le_refl _
theorem dedup_len (ks : List (List Bool)) : (dedup ks).length ≤ ks.length := by
  have h : ∀ (ks acc : List (List Bool)), (ks.foldl addK acc).length ≤ acc.length + ks.length := fun ks => by
    induction ks with
    | nil => intro acc; exact Nat.le_refl _
    | cons k ks ih =>
      intro acc
      have h1 := ih (addK acc k)
      have h2 := addK_len acc k
      rw [List.foldl_cons, List.length_cons]
      omega
  have := h ks []
  simpa [dedup] using this
theorem dedup_snoc (ks : List (List Bool)) (k : List Bool) : dedup (ks ++ [k]) = addK (dedup ks) k := by
  unfold dedup
  rw [List.foldl_append]
  rfl
noncomputable def shatOf (Fits : Kd → Rows → Prop) (κ : Kd) (ps : List (List Int)) : List (List Int) := (allParts ps.length).filter fun part => shat (labsOf Fits κ ps) part
def spShattered (c : Cls5) (Ask : Kd → Rows → Prop) (Fits : Kd → Rows → Prop) : Sp := fun vs H Q _ => ∃ (k a : Addr) (κ : Kd) (ps : List (List Int)), vs = [.ref k, .ref a] ∧ KindAt c H k κ ∧ 1 ≤ κ.places ∧ κ.places ≤ 3 ∧ Ls IsP H a ps ∧ Pts κ.places ps ∧ ps.length ≤ 5 ∧ (∀ ls : List Bool, Ask κ (ps.zip ls)) ∧
  RL IsP (shatOf Fits κ ps) H Q
def spDimension (c : Cls5) (Ask : Kd → Rows → Prop) (Fits : Kd → Rows → Prop) : Sp := fun vs H Q _ => ∃ (k a : Addr) (κ : Kd) (ps : List (List Int)), vs = [.ref k, .ref a] ∧ KindAt c H k κ ∧ 1 ≤ κ.places ∧ κ.places ≤ 3 ∧ Ls IsP H a ps ∧ Pts κ.places ps ∧ ps.length ≤ 5 ∧ (∀ ls : List Bool, Ask κ (ps.zip ls)) ∧
  shatOf Fits κ ps ≠ [] ∧ RV (.int ((shatOf Fits κ ps).getLast?.getD []).length) H Q
section
variable {P : Program} {w : World} {K : PySem.W.Frag} {mg : Str → Option Value} {base : Heap}
theorem sc_is_shattered : FnScope ["rows", "part", "seen", "wanted", "index", "labels"] ["rows", "part"] (defScope s_is_shattered) := C8.fnScope_by (by decide +kernel)
theorem cal_is_shattered (T : Txt mg) (D : Dfn K mg "is_shattered" s_is_shattered ["rows", "part"] []) : Cal P w K mg base (1) "is_shattered" (spIsShattered) [] := by
  have nd := sc_is_shattered.nd
  refine D.cal sc_is_shattered (fun vs H Q E h => by obtain ⟨r, v, rows, part, n, rfl, hL, hv, hp, hrl, hb, hrn, hQ⟩ := h; rfl) (fun f cdv A outer s H vs Q E hr h => ?_)
  obtain ⟨r, v, rows, part, n, rfl, hL, hv, hp, hrl, hb, hrn, hQ⟩ := h
  have hu9 := room9 hr
  refine ⟨_, (pss_cons (ps_setDcX (i := 2) hu9 rfl nd rfl rfl (sw_trueD rfl rfl rfl (by decide +kernel)) (kpi_list K (pv 0)) (blkOk_by (own := [("labels", 5)]) (N := ["rows", "part", "seen", "wanted", "index", "labels"]) (sc := defScope s_is_shattered) (by decide +kernel)) (fun _ _ _ _ _ => (pg_name (i := 5) nd rfl (Or.inr rfl))) (fun _ _ _ _ _ => pts_nil) (fun _ _ _ _ _ => (kpe_tupleOf K rfl T.b_tuple (pe_lc rfl nd (kpi_tup K (pv 1)) (blkOk_by (own := [("index", 4)]) (N := ["rows", "part", "seen", "wanted", "index", "labels"]) rfl) (fun _ _ _ _ _ => (pg_name (i := 4) nd rfl (Or.inl rfl))) (fun _ _ _ _ _ => pts_nil) (fun _ _ _ _ _ => (pe_ix (kix_tup K) (pv 5) (pv 4) (fun _ _ => rfl)))))) (fun _ _ _ _ _ => pe_bl))
      (pss_cons (ps_set (i := 3) nd rfl (Or.inl rfl) pe_int)
      (pss_cons (ps_for PassesOwn.never rfl (kpi_tup K (pv 1)) (pg_name (i := 4) nd rfl (Or.inl rfl)) (pss_one (ps_set (i := 3) nd rfl (Or.inl rfl) (pe_op op_mul pe_int (pv 3)))))
      (pss_one (ps_ret (pe_cmpR op_eq (pe_callB klenX rfl T.b_len PySem.boot_len (pa_cons (pv 2) pa_nil)) (pv 3) (nomark _))))))), ?_⟩
  obtain ⟨xs, hr1, hxs⟩ := hL
  obtain ⟨pa, rfl, hpa⟩ := hv
  refine ⟨_, rfl, r, rfl, ⟨xs, SqL.of hr1⟩, fun D hD => ?_⟩
  have hD0 : Ex H (upd H D (DKO P w D [])) := Ex.new hD
  refine dcX_it (walk_list (xs := xs)) (fun i H' => Ex H H' ∧ ∃ es, H' D = some (DKO P w D es) ∧ KsAt H' es ∧ es.map (·.1) = (dedup ((rows.take i).map (pick part))).map nkB) ⟨hD0, [], upd_same, (fun _ h => nomatch h), rfl⟩ (fun i H' _ h => SqL.of (h.1 _ _ hr1)) (fun i x H9 H' hi h hy => ?_) (fun H' h => ?_)
  · obtain ⟨e, es, hDe, hks, hke⟩ := h
    obtain ⟨rfl, hxi⟩ := hy
    obtain ⟨l, hl, t, rfl, ht⟩ := paired_of hxs hxi
    have ht1 := e _ _ ht
    have hln := hrn l (List.mem_of_getElem? hl)
    refine ⟨rfl, _, rfl, pa, rfl, ⟨_, SqT.of (e _ _ hpa)⟩, fun L hL => lc_data part (fun _ => true) IsBl (fun x => l.getD x.toNat false) (Y := YAt (part.map V.int)) (G := fun H => SqT K H pa (part.map V.int)) (by have z := walk_tup (K := K) (a := pa) (xs := part.map V.int); rw [List.length_map] at z; exact z) tst_Bl (by omega) hL (fun H e9 => SqT.of ((e.trans e9) _ _ hpa)) (fun i x H H' h => h.1 ▸ Ex.refl H) (fun j x y H8 H5 hx e5 hy Ky Kn k1 k2 => ?_) (fun H5 e5 hL5 => ?_)⟩
    · obtain ⟨rfl, hyj⟩ := hy
      rw [List.getElem?_map, hx] at hyj
      obtain rfl := Option.some.inj hyj
      obtain ⟨h0, hn⟩ := hb x (List.mem_of_getElem? hx)
      refine ⟨rfl, _, rfl, _, rfl, t, _, x, .bl (l.getD x.toNat false), rfl, rfl, SqT.of (e5 _ _ ht1), atI_int h0 ?_, k1 rfl _ _ (Ex.refl _) rfl⟩
      rw [List.getElem?_map, List.getElem?_eq_getElem (by omega)]
      simp [List.getD, List.getElem?_eq_getElem (show x.toNat < l.length by omega)]
    · rw [filter_all] at hL5
      have hLb := ls_Bl hL5
      refine .inl ⟨L, _, rfl, SqL.of hLb, fun q hq => ?_⟩
      have e6 : Ex H' (upd H5 q (.tup ((part.map fun x => l.getD x.toNat false).map V.bl))) := e5.trans (Ex.new hq)
      have hKq : KeyAt (upd H5 q (.tup ((part.map fun x => l.getD x.toNat false).map V.bl))) (nkB (pick part l)) q := .inl ⟨_, rfl, upd_same⟩
      generalize upd H5 q (.tup ((part.map fun x => l.getD x.toNat false).map V.bl)) = H6 at e6 hKq
      have hD6 := e6 _ _ hDe
      have hks6 := hks.mono (Ex.tex e6)
      have hlen : es.length ≤ 1000 := by
        have z := congrArg List.length hke
        rw [List.length_map, List.length_map] at z
        have z2 := dedup_len ((rows.take i).map (pick part))
        rw [List.length_map, List.length_take] at z2
        omega
      have t7 := TEx.dko (P := P) (w := w) (DKO P w D (putX es (nkB (pick part l)) q (.bl true))) hD6
      refine ⟨es, nkB (pick part l), q, rfl, hKq, hD6, hks6, szl (by omega), Ex.mut (e.trans e6) hD, _, upd_same, (hks6.put hKq).mono t7, ?_⟩
      rw [take_succ_of hl, List.map_append]
      have es2 : ([l] : List (List Bool)).map (pick part) = [pick part l] := rfl
      rw [es2, dedup_snoc]
      exact keys_add hke _ _ _
  · obtain ⟨e, es, hDe, hks, hke⟩ := h
    rw [hxs.length, List.take_length] at hke
    have hlen : es.length = (dedup (rows.map (pick part))).length := by
      have z := congrArg List.length hke
      rwa [List.length_map, List.length_map] at z
    refine ⟨_, rfl, pa, rfl, ⟨_, SqT.of (e _ _ hpa)⟩, for_it (walk_tup (xs := part.map V.int)) (fun i σ H6 => H6 = H' ∧ ∃ x4 x5, σ = [some (.ref r), some (.ref pa), some (.ref D), some (.int (2 ^ i)), x4, x5]) ⟨rfl, _, _, rfl⟩ (fun i σ H6 _ h => by rw [h.1]; exact SqT.of (e _ _ hpa)) (fun i x σ H9 H6 hi h hy => ?_) (fun σ H6 h => ?_)⟩
    · obtain ⟨rfl, x4, x5, rfl⟩ := h
      obtain ⟨rfl, hxi⟩ := hy
      refine ⟨_, rfl, _, _, rfl, rfl, .inl (by decide), rfl, some x, x5, ?_⟩
      rw [show (2 : Int) ^ (i + 1) = 2 * 2 ^ i by rw [Int.pow_succ, Int.mul_comm]]
      rfl
    · obtain ⟨rfl, x4, x5, rfl⟩ := h
      refine ⟨_, rfl, D, es, rfl, hDe, hks, _, rfl, rfl, ?_⟩
      have ev : decide (V.int (es.length : Nat) = V.int (2 ^ (part.map V.int).length)) = shat rows part := by
        unfold shat
        rw [hlen, List.length_map]
        rw [Bool.eq_iff_iff, decide_eq_true_iff, decide_eq_true_iff]
        exact ⟨fun h => V.int.inj h, fun h => congrArg V.int h⟩
      show Q (.bl (decide (V.int (es.length : Nat) = V.int (2 ^ (part.map V.int).length)))) H6
      rw [ev]
      exact hQ H6 e
theorem sc_shattered : FnScope ["kind", "points", "rows", "part"] ["kind", "points"] (defScope s_shattered) := C8.fnScope_by (by decide +kernel)
theorem cal_shattered (T : Txt mg) (D : Dfn K mg "shattered" s_shattered ["kind", "points"] [])
    {c : Cls5} {Ask Fits : Kd → Rows → Prop} (C_labelings : Cal P w K mg base 9 "labelings" (spLabelings c Ask Fits) [])
    (C_all_parts : Cal P w K mg base 2 "all_parts" spAllParts [])
    (C_is_shattered : Cal P w K mg base 1 "is_shattered" spIsShattered []) : Cal P w K mg base (10) "shattered" (spShattered c Ask Fits) [] := by
  have nd := sc_shattered.nd
  refine D.cal sc_shattered (fun vs H Q E h => by obtain ⟨k, a, κ, ps, rfl, hk, k1', k3, hL, hp, h5, hask, hQ⟩ := h; rfl) (fun f cdv A outer s H vs Q E hr h => ?_)
  obtain ⟨k, a, κ, ps, rfl, hk, k1', k3, hL, hp, h5, hask, hQ⟩ := h
  refine ⟨_, (pss_cons (ps_set (i := 2) nd rfl (Or.inr rfl) (pe_c C_labelings hr (by decide) rfl (pa_cons (pv 0) (pa_cons (pv 1) pa_nil))))
      (pss_one (ps_ret (pe_lc rfl nd (kpi_list K (pe_c C_all_parts hr (by decide) rfl (pa_cons (pe_callB (klen K) rfl T.b_len PySem.boot_len (pa_cons (pv 1) pa_nil)) pa_nil))) (blkOk_by (own := [("part", 3)]) (N := ["kind", "points", "rows", "part"]) (sc := defScope s_shattered) (by decide +kernel)) (fun _ _ _ _ _ => (pg_name (i := 3) nd rfl (Or.inl rfl))) (fun _ _ _ _ _ => (pts_one (pt_val (pe_c C_is_shattered hr (by decide) rfl (pa_cons (pv 2) (pa_cons (pv 3) pa_nil)))))) (fun _ _ _ _ _ => (pv 3)))))), ?_⟩
  refine ⟨_, rfl, _, rfl, k, a, κ, ps, rfl, hk, k1', k3, hL, hp, by omega, hask, fun r H1 hr1 e1 hLr => ?_⟩
  obtain ⟨xs, ha, hx⟩ := hL
  have ha1 := e1 _ _ ha
  refine ⟨_, rfl, a, xs, rfl, .inl (SqL.of ha1), ps.length, by rw [hx.length]; rfl, by omega, fun q H2 hq e2 hLq => ?_⟩
  obtain ⟨ys, hq2, hys⟩ := hLq
  have hyl := hys.length
  obtain ⟨ha1', ha2'⟩ := all_small ps.length (by omega)
  refine ⟨q, rfl, ⟨ys, SqL.of hq2⟩, fun D hD => lc_data (allParts ps.length) (fun part => shat (labsOf Fits κ ps) part) IsP (fun l => l) (Y := YAt ys) (G := fun H => SqL K H q ys) (by have z := walk_list (K := K) (a := q) (xs := ys); rw [hyl] at z; exact z) tst_P (by omega) hD (fun H e => SqL.of (e _ _ hq2)) (fun i x H H' h => h.1 ▸ Ex.refl H) (fun j l y H9 H5 hl e5 hy Ky Kn k1 k2 => ?_) (fun H5 e5 hLs => ?_)⟩
  · obtain ⟨rfl, hyj⟩ := hy
    obtain ⟨l', hl', hly⟩ := paired_of hys hyj
    obtain rfl := Option.some.inj (hl'.symm.trans hl)
    have hly5 := tst_P _ _ _ _ (Ex.tex e5) hly
    obtain ⟨hm1, hm2⟩ := ha2' l' (List.mem_of_getElem? hl)
    refine ⟨rfl, _, rfl, _, rfl, r, y, labsOf Fits κ ps, l', ps.length, rfl, (hLr.mono tst_B.sst (e2.trans e5)), hly5, by omega, ?_, hm2, fun l hl => labs_at _ _ l hl, fun H6 e6 => ⟨shat (labsOf Fits κ ps) l', rfl, ?_⟩⟩
    · have z := labs_len (fun ls => @decide (Fits κ (ps.zip ls)) (Classical.propDecidable _)) ps.length
      have z2 : 2 ^ ps.length ≤ 2 ^ 5 := Nat.pow_le_pow_right (by decide) (by omega)
      exact Nat.le_trans z (Nat.le_trans z2 (by decide))
    · cases hsh : shat (labsOf Fits κ ps) l' with
      | true => exact iteT ⟨_, rfl, k1 hsh _ _ e6 (tst_P _ _ _ _ (Ex.tex e6) hly5)⟩
      | false => exact iteF (k2 hsh _ e6)
  · rw [List.map_id'] at hLs
    exact hQ D H5 (Evl.fresh_back (e1.trans e2) hD) ((e1.trans e2).trans e5) hLs
theorem sc_dimension : FnScope ["kind", "points"] ["kind", "points"] (defScope s_dimension) := C8.fnScope_by (by decide +kernel)
theorem cal_dimension (T : Txt mg) (D : Dfn K mg "dimension" s_dimension ["kind", "points"] [])
    {c : Cls5} {Ask Fits : Kd → Rows → Prop} (C_shattered : Cal P w K mg base 10 "shattered" (spShattered c Ask Fits) []) : Cal P w K mg base (11) "dimension" (spDimension c Ask Fits) [] := by
  have nd := sc_dimension.nd
  refine D.cal sc_dimension (fun vs H Q E h => by obtain ⟨k, a, κ, ps, rfl, hk, k1', k3, hL, hp, h5, hask, hne, hQ⟩ := h; rfl) (fun f cdv A outer s H vs Q E hr h => ?_)
  obtain ⟨k, a, κ, ps, rfl, hk, k1', k3, hL, hp, h5, hask, hne, hQ⟩ := h
  refine ⟨_, (pss_one (ps_ret (pe_callB (klen K) rfl T.b_len PySem.boot_len (pa_cons (pe_ix (kix_list K) (pe_c C_shattered hr (by decide) rfl (pa_cons (pv 0) (pa_cons (pv 1) pa_nil))) (pe_un un_neg pe_int) (fun _ _ => rfl)) pa_nil)))), ?_⟩
  refine ⟨_, rfl, _, rfl, k, a, κ, ps, rfl, hk, k1', k3, hL, hp, h5, hask, fun r H1 hr1 e1 hLr => ?_⟩
  obtain ⟨xs, hr2, hx⟩ := hLr
  obtain ⟨dl, dr, hd⟩ : ∃ dl dr, shatOf Fits κ ps = dr ++ [dl] := ⟨(shatOf Fits κ ps).getLast hne, (shatOf Fits κ ps).dropLast, (List.dropLast_concat_getLast hne).symm⟩
  have hget : (shatOf Fits κ ps).getLast?.getD [] = dl := by rw [hd]; simp
  have hlen := hx.length
  rw [hd] at hx
  obtain ⟨x, hx1, hx2⟩ := paired_at (i := dr.length) (d := dl) hx (by simp)
  have hxl := hx.length
  rw [List.length_append, List.length_singleton] at hxl
  obtain ⟨b, rfl, hb⟩ := hx2
  refine ⟨1, rfl, r, xs, -1, .ref b, rfl, rfl, SqL.of hr2, ?_, b, _, rfl, .inr (SqT.of hb), ?_⟩
  · have e : xs = xs.dropLast ++ [.ref b] := by
      have hne : xs ≠ [] := fun e => by rw [e] at hxl; simp at hxl
      have z := List.dropLast_concat_getLast hne
      have z2 : xs.getLast hne = .ref b := by
        rw [List.getLast_eq_getElem]
        have z3 := List.getElem?_eq_getElem (l := xs) (i := dr.length) (by omega)
        rw [hx1] at z3
        have e4 : xs.length - 1 = dr.length := by omega
        simp only [e4]
        exact (Option.some.inj z3).symm
      rw [z2] at z
      exact z.symm
    rw [e]
    exact atI_last _ _
  · rw [List.length_map, ← hget]
    exact hQ H1 e1
end
end K49

namespace K49
open PySem PySem.Spec PyProof.Rows L2
open C8 (Cal Met Mak pe_c pe_mk pe_mt pe_mt0 pe_gc)
open Evl (Ex)
def agreeOn (part : List Int) (l m : List Bool) : Bool := part.all fun i => decide (l.getD i.toNat false = m.getD i.toNat false)
def firsts (rows : List (List Bool)) (l : List Bool) : List (List Int) := (allParts l.length).filter fun part => decide ((rows.filter fun m => agreeOn part l m).length = 1)
def firstOf (rows : List (List Bool)) (l : List Bool) : List Int := (firsts rows l).head?.getD []
def spAgree : Sp := fun vs H Q _ => ∃ (v1 v2 v3 : V) (l m : List Bool) (part : List Int) (n : Nat), vs = [v1, v2, v3] ∧ IsB H v1 l ∧ IsB H v2 m ∧ IsP H v3 part ∧ part.length ≤ 6 ∧ Below n part ∧ l.length = n ∧ m.length = n ∧ RV (.bl (agreeOn part l m)) H Q
def spFirst : Sp := fun vs H Q _ => ∃ (r : Addr) (v : V) (rows : List (List Bool)) (l : List Bool), vs = [.ref r, v] ∧ Ls IsB H r rows ∧ IsB H v l ∧ l.length ≤ 5 ∧ (∀ m ∈ rows, m.length = l.length) ∧ rows.length ≤ 1000 ∧ firsts rows l ≠ [] ∧ ∀ v' H', Ex H H' → IsP H' v' (firstOf rows l) → Q v' H'
def spTeaching (c : Cls5) (Ask : Kd → Rows → Prop) (Fits : Kd → Rows → Prop) : Sp := fun vs H Q _ => ∃ (k a : Addr) (κ : Kd) (ps : List (List Int)), vs = [.ref k, .ref a] ∧ KindAt c H k κ ∧ 1 ≤ κ.places ∧ κ.places ≤ 3 ∧ Ls IsP H a ps ∧ Pts κ.places ps ∧ ps.length ≤ 5 ∧ (∀ ls : List Bool, Ask κ (ps.zip ls)) ∧
  labsOf Fits κ ps ≠ [] ∧ (∀ l ∈ labsOf Fits κ ps, firsts (labsOf Fits κ ps) l ≠ []) ∧ ∀ m, m ∈ (labsOf Fits κ ps).map (fun l => ((firstOf (labsOf Fits κ ps) l).length : Int)) → (∀ y, y ∈ (labsOf Fits κ ps).map (fun l => ((firstOf (labsOf Fits κ ps) l).length : Int)) → y ≤ m) → RV (.int m) H Q
theorem labs_small {Fits : Kd → Rows → Prop} {κ : Kd} {ps : List (List Int)} (h : ps.length ≤ 5) : (labsOf Fits κ ps).length ≤ 32 := by
  have z := labs_len (fun ls => @decide (Fits κ (ps.zip ls)) (Classical.propDecidable _)) ps.length
  have z2 : 2 ^ ps.length ≤ 2 ^ 5 := Nat.pow_le_pow_right (by decide) (by omega)
  exact Nat.le_trans z (Nat.le_trans z2 (by decide))
theorem at_B {l : List Bool} {x : Int} (h0 : 0 ≤ x) (h : x.toNat < l.length) : atI (l.map V.bl) x = some (.bl (l.getD x.toNat false)) := by
  refine atI_int h0 ?_
  rw [List.getElem?_map, List.getElem?_eq_getElem h]
  simp [List.getD, List.getElem?_eq_getElem h]
section
variable {P : Program} {w : World} {K : PySem.W.Frag} {mg : Str → Option Value} {base : Heap}
theorem sc_agree : FnScope ["one", "other", "part", "index"] ["one", "other", "part"] (defScope s_agree) := C8.fnScope_by (by decide +kernel)
theorem cal_agree (T : Txt mg) (D : Dfn K mg "agree" s_agree ["one", "other", "part"] []) : Cal P w K mg base (1) "agree" (spAgree) [] := by
  have nd := sc_agree.nd
  refine D.cal sc_agree (fun vs H Q E h => by obtain ⟨v1, v2, v3, l, m, part, n, rfl, h1, h2, h3, hp, hb, hl, hm, hQ⟩ := h; rfl) (fun f cdv A outer s H vs Q E hr h => ?_)
  obtain ⟨v1, v2, v3, l, m, part, n, rfl, h1, h2, h3, hp, hb, hl, hm, hQ⟩ := h
  refine ⟨_, (pss_one (ps_ret (pe_callB (kall K rfl) rfl T.b_all (by decide +kernel) (pa_cons (pe_lc rfl nd (kpi_tup K (pv 2)) (blkOk_by (own := [("index", 3)]) (N := ["one", "other", "part", "index"]) (sc := defScope s_agree) (by decide +kernel)) (fun _ _ _ _ _ => (pg_name (i := 3) nd rfl (Or.inl rfl))) (fun _ _ _ _ _ => pts_nil) (fun _ _ _ _ _ => (pe_cmpR op_eq (pe_ix (kix_tup K) (pv 0) (pv 3) (fun _ _ => rfl)) (pe_ix (kix_tup K) (pv 1) (pv 3) (fun _ _ => rfl)) (nomark _)))) pa_nil)))), ?_⟩
  obtain ⟨a1, rfl, ha1⟩ := h1
  obtain ⟨a2, rfl, ha2⟩ := h2
  obtain ⟨a3, rfl, ha3⟩ := h3
  refine ⟨_, rfl, a3, rfl, ⟨_, SqT.of ha3⟩, fun L hL => lc_data part (fun _ => true) IsBl (fun i => decide (l.getD i.toNat false = m.getD i.toNat false)) (Y := YAt (part.map V.int)) (G := fun H => SqT K H a3 (part.map V.int)) (by have z := walk_tup (K := K) (a := a3) (xs := part.map V.int); rw [List.length_map] at z; exact z) tst_Bl (by omega) hL (fun H e9 => SqT.of (e9 _ _ ha3)) (fun i x H H' h => h.1 ▸ Ex.refl H) (fun j x y H8 H5 hx e5 hy Ky Kn k1 k2 => ?_) (fun H5 e5 hL5 => ?_)⟩
  · obtain ⟨rfl, hyj⟩ := hy
    rw [List.getElem?_map, hx] at hyj
    obtain rfl := Option.some.inj hyj
    obtain ⟨h0, hn⟩ := hb x (List.mem_of_getElem? hx)
    refine ⟨rfl, _, rfl, _, rfl, a1, _, x, _, rfl, rfl, SqT.of (e5 _ _ ha1), at_B h0 (by omega), ?_⟩
    refine ⟨_, rfl, _, rfl, a2, _, x, _, rfl, rfl, SqT.of (e5 _ _ ha2), at_B h0 (by omega), rfl, k1 rfl _ _ (Ex.refl _) ?_⟩
    show V.bl _ = V.bl _
    congr 1
    rw [Bool.eq_iff_iff, decide_eq_true_iff, decide_eq_true_iff]
    exact ⟨fun h => V.bl.inj h, fun h => congrArg V.bl h⟩
  · rw [filter_all] at hL5
    have hLb := ls_Bl hL5
    refine ⟨L, _, rfl, SqL.of hLb, ?_⟩
    have ev : (part.map fun i => decide (l.getD i.toNat false = m.getD i.toNat false)).all id = agreeOn part l m := by
      unfold agreeOn
      rw [List.all_map]
      rfl
    rw [ev]
    exact hQ H5 e5
theorem sc_first_part : FnScope ["rows", "labels", "parts", "part", "other"] ["rows", "labels"] (defScope s_first_part) := C8.fnScope_by (by decide +kernel)
theorem cal_first_part (T : Txt mg) (D : Dfn K mg "first_part" s_first_part ["rows", "labels"] [])
    (C_all_parts : Cal P w K mg base 2 "all_parts" spAllParts [])
    (C_agree : Cal P w K mg base 1 "agree" spAgree []) : Cal P w K mg base (3) "first_part" (spFirst) [] := by
  have nd := sc_first_part.nd
  refine D.cal sc_first_part (fun vs H Q E h => by obtain ⟨r, v, rows, l, rfl, hR, hv, hl5, hrl, hr1000, hne, hQ⟩ := h; rfl) (fun f cdv A outer s H vs Q E hr h => ?_)
  obtain ⟨r, v, rows, l, rfl, hR, hv, hl5, hrl, hr1000, hne, hQ⟩ := h
  refine ⟨_, (pss_cons (ps_set (i := 2) nd rfl (Or.inl rfl) (pe_c C_all_parts hr (by decide) rfl (pa_cons (pe_callB (klen K) rfl T.b_len PySem.boot_len (pa_cons (pv 1) pa_nil)) pa_nil)))
      (pss_one (ps_ret (pe_ix (kix_list K) (pe_lc rfl nd (kpi_list K (pv 2)) (blkOk_by (own := [("part", 3)]) (N := ["rows", "labels", "parts", "part", "other"]) (sc := defScope s_first_part) (by decide +kernel)) (fun _ _ _ _ _ => (pg_name (i := 3) nd rfl (Or.inr rfl))) (fun _ _ _ _ _ => (pts_one (pt_cmpR op_eq (pe_callB (klen K) rfl T.b_len PySem.boot_len (pa_cons (pe_lc rfl nd (kpi_list K (pv 0)) (blkOk_by (own := [("other", 4)]) (N := ["rows", "labels", "parts", "part", "other"]) rfl) (fun _ _ _ _ _ => (pg_name (i := 4) nd rfl (Or.inl rfl))) (fun _ _ _ _ _ => (pts_one (pt_val (pe_c C_agree hr (by decide) rfl (pa_cons (pv 1) (pa_cons (pv 4) (pa_cons (pv 3) pa_nil))))))) (fun _ _ _ _ _ => (pv 4))) pa_nil)) pe_int (nomark _)))) (fun _ _ _ _ _ => (pv 3))) pe_int (fun _ _ => rfl))))), ?_⟩
  obtain ⟨xs, hr1, hxs⟩ := hR
  obtain ⟨b, rfl, hb⟩ := hv
  refine ⟨_, rfl, b, _, rfl, .inr (SqT.of hb), l.length, by rw [List.length_map]; rfl, by omega, fun q H2 hq e2 hLq => ?_⟩
  obtain ⟨ys, hq2, hys⟩ := hLq
  have hyl := hys.length
  obtain ⟨ha1', ha2'⟩ := all_small l.length (by omega)
  refine ⟨_, rfl, q, rfl, ⟨ys, SqL.of hq2⟩, fun D hD => lc_data (allParts l.length) (fun part => decide ((rows.filter fun m => agreeOn part l m).length = 1)) IsP (fun l => l) (Y := YAt ys) (G := fun H => SqL K H q ys) (by have z := walk_list (K := K) (a := q) (xs := ys); rw [hyl] at z; exact z) tst_P (by omega) hD (fun H e => SqL.of (e _ _ hq2)) (fun i x H H' h => h.1 ▸ Ex.refl H) (fun j part y H9 H5 hl e5 hy Ky Kn k1 k2 => ?_) (fun H5 e5 hLs => ?_)⟩
  · obtain ⟨rfl, hyj⟩ := hy
    obtain ⟨l', hl', hly⟩ := paired_of hys hyj
    obtain rfl := Option.some.inj (hl'.symm.trans hl)
    have hly5 := tst_P _ _ _ _ (Ex.tex e5) hly
    obtain ⟨hm1, hm2⟩ := ha2' l' (List.mem_of_getElem? hl)
    have e25 := e2.trans e5
    have hr5 := e25 _ _ hr1
    have hxl := hxs.length
    refine ⟨rfl, _, rfl, r, rfl, ⟨xs, SqL.of hr5⟩, fun D2 hD2 => lc_data rows (fun m => agreeOn l' l m) IsB (fun m => m) (Y := YAt xs) (G := fun H => SqL K H r xs) (by have z := walk_list (K := K) (a := r) (xs := xs); rw [hxl] at z; exact z) tst_B (by omega) hD2 (fun H e => SqL.of (e _ _ hr5)) (fun i x H H' h => h.1 ▸ Ex.refl H) (fun j2 m z H8 H6 hm e6 hz Ky2 Kn2 k3 k4 => ?_) (fun H6 e6 hL6 => ?_)⟩
    · obtain ⟨rfl, hzj⟩ := hz
      obtain ⟨m', hm', hmz⟩ := paired_of hxs hzj
      obtain rfl := Option.some.inj (hm'.symm.trans hm)
      have hmz6 := tst_B _ _ _ _ (Ex.tex (e25.trans e6)) hmz
      refine ⟨rfl, _, rfl, _, rfl, _, rfl, .ref b, z, y, l, m', l', l.length, rfl, ⟨b, rfl, (e25.trans e6) _ _ hb⟩, hmz6, tst_P _ _ _ _ (Ex.tex e6) hly5, by omega, hm2, rfl, hrl m' (List.mem_of_getElem? hm), fun H7 e7 => ⟨_, rfl, ?_⟩⟩
      cases hag : agreeOn l' l m' with
      | true => exact iteT ⟨_, rfl, k3 hag _ _ e7 (tst_B _ _ _ _ (Ex.tex e7) hmz6)⟩
      | false => exact iteF (k4 hag _ e7)
    · rw [List.map_id'] at hL6
      obtain ⟨zs, hD2z, hzs⟩ := hL6
      have hzl := hzs.length
      refine ⟨D2, zs, rfl, .inl (SqL.of hD2z), rfl, _, rfl, ?_⟩
      have ev : decide (V.int (zs.length : Nat) = V.int 1) = decide ((rows.filter fun m => agreeOn l' l m).length = 1) := by
        rw [← hzl, Bool.eq_iff_iff, decide_eq_true_iff, decide_eq_true_iff]
        exact ⟨fun h => by have := V.int.inj h; omega, fun h => by rw [h]; rfl⟩
      rw [ev]
      cases hag : decide ((rows.filter fun m => agreeOn l' l m).length = 1) with
      | true => exact iteT ⟨_, rfl, k1 hag _ _ e6 (tst_P _ _ _ _ (Ex.tex e6) hly5)⟩
      | false => exact iteF (k2 hag _ e6)
  · rw [List.map_id'] at hLs
    obtain ⟨zs, hDz, hzs⟩ := hLs
    obtain ⟨f0, fr, hf⟩ : ∃ f0 fr, firsts rows l = f0 :: fr := by
      cases h : firsts rows l with
      | nil => exact absurd h hne
      | cons f0 fr => exact ⟨f0, fr, rfl⟩
    have hfo : firstOf rows l = f0 := by unfold firstOf; rw [hf]; rfl
    unfold firsts at hf
    rw [hf] at hzs
    obtain ⟨x, hx1, hx2⟩ := paired_at (i := 0) (d := f0) hzs rfl
    refine ⟨D, zs, 0, x, rfl, rfl, SqL.of hDz, atI_nat (j := 0) hx1, hQ x H5 (e2.trans e5) ?_⟩
    rw [hfo]
    exact hx2
theorem sc_teaching_number : FnScope ["kind", "points", "rows", "labels"] ["kind", "points"] (defScope s_teaching_number) := C8.fnScope_by (by decide +kernel)
theorem cal_teaching_number (T : Txt mg) (D : Dfn K mg "teaching_number" s_teaching_number ["kind", "points"] [])
    {c : Cls5} {Ask Fits : Kd → Rows → Prop} (C_labelings : Cal P w K mg base 9 "labelings" (spLabelings c Ask Fits) [])
    (C_first_part : Cal P w K mg base 3 "first_part" spFirst []) : Cal P w K mg base (10) "teaching_number" (spTeaching c Ask Fits) [] := by
  have nd := sc_teaching_number.nd
  refine D.cal sc_teaching_number (fun vs H Q E h => by obtain ⟨k, a, κ, ps, rfl, hk, k1', k3, hL, hp, h5, hask, hne, hfs, hQ⟩ := h; rfl) (fun f cdv A outer s H vs Q E hr h => ?_)
  obtain ⟨k, a, κ, ps, rfl, hk, k1', k3, hL, hp, h5, hask, hne, hfs, hQ⟩ := h
  refine ⟨_, (pss_cons (ps_set (i := 2) nd rfl (Or.inr rfl) (pe_c C_labelings hr (by decide) rfl (pa_cons (pv 0) (pa_cons (pv 1) pa_nil))))
      (pss_one (ps_ret (pe_callB (kmax K rfl) rfl T.b_max (by decide +kernel) (pa_cons (pe_lc rfl nd (kpi_list K (pv 2)) (blkOk_by (own := [("labels", 3)]) (N := ["kind", "points", "rows", "labels"]) (sc := defScope s_teaching_number) (by decide +kernel)) (fun _ _ _ _ _ => (pg_name (i := 3) nd rfl (Or.inl rfl))) (fun _ _ _ _ _ => pts_nil) (fun _ _ _ _ _ => (pe_callB (klen K) rfl T.b_len PySem.boot_len (pa_cons (pe_c C_first_part hr (by decide) rfl (pa_cons (pv 2) (pa_cons (pv 3) pa_nil))) pa_nil)))) pa_nil))))), ?_⟩
  refine ⟨_, rfl, _, rfl, k, a, κ, ps, rfl, hk, k1', k3, hL, hp, by omega, hask, fun r H1 hr1 e1 hLr => ?_⟩
  obtain ⟨xs, hr2, hxs⟩ := hLr
  have hxl := hxs.length
  have h32 := labs_small (Fits := Fits) (κ := κ) h5
  refine ⟨_, rfl, r, rfl, ⟨xs, SqL.of hr2⟩, fun D hD => lc_data (labsOf Fits κ ps) (fun _ => true) IsI (fun l => ((firstOf (labsOf Fits κ ps) l).length : Int)) (Y := YAt xs) (G := fun H => SqL K H r xs) (by have z := walk_list (K := K) (a := r) (xs := xs); rw [hxl] at z; exact z) tst_I (by omega) hD (fun H e => SqL.of (e _ _ hr2)) (fun i x H H' h => h.1 ▸ Ex.refl H) (fun j l y H9 H5 hl e5 hy Ky Kn k1 k2 => ?_) (fun H5 e5 hLs => ?_)⟩
  · obtain ⟨rfl, hyj⟩ := hy
    obtain ⟨l', hl', hly⟩ := paired_of hxs hyj
    obtain rfl := Option.some.inj (hl'.symm.trans hl)
    have hmem := List.mem_of_getElem? hl
    have hlen := labs_at _ _ l' hmem
    refine ⟨rfl, _, rfl, _, rfl, r, y, labsOf Fits κ ps, l', rfl, ⟨xs, e5 _ _ hr2, hxs.mono tst_B.sst e5⟩, tst_B _ _ _ _ (Ex.tex e5) hly, by omega, fun m hm => by rw [hlen]; exact labs_at _ _ m hm, by omega, hfs l' hmem, fun v' H6 e6 hv' => ?_⟩
    obtain ⟨b, rfl, hb⟩ := hv'
    refine ⟨b, _, rfl, .inr (SqT.of hb), k1 rfl _ _ e6 ?_⟩
    rw [List.length_map]
    rfl
  · rw [filter_all] at hLs
    have hLi := ls_I hLs
    refine ⟨D, _, rfl, SqL.of hLi, ?_, fun m h1 h2 => hQ m h1 h2 H5 (e1.trans e5)⟩
    rw [List.length_map]
    exact List.length_pos_iff.mpr hne
end
end K49

namespace K49
open PySem PySem.Spec PyProof.Rows L2
open Evl (Ex)
open LamX (Tabs TabB CodeO ExtN)
/-- what is known of a lambda's function object -/
def LamO (q : Str) (ps : Arguments) (b : Expr) (sc : Scope) (f c' : Addr) : HO := .ext fun h => ∃ pm ctv, h.get? f = some (PySem.W.kla_obj "<lambda>" q ps b sc [] pm c' ctv)
abbrev firstOfB (p : Str) (p1 p2 p3 : Pos) : Expr := .Subscript (.Name p p1) (.Constant (.int 0) 0 p2) p3
/-- the shape of the lambda p: p[0] -/
structure LamOk (p : Str) (ps : Arguments) (sc : Scope) : Prop where
  kind : sc.kind = .function
  co : sc.isCoroutine = false
  gen : sc.isGenerator = false
  names : sc.names = [(p, .local)]
  bind : ∀ (q : Str) (b : Expr) (cl : List (Str × Addr)) (pm cv ctv v : Value), bindArgs (PySem.W.kla_fn "<lambda>" q ps b sc cl pm cv ctv) ⟨[v], []⟩ = pure [(p, v)]
  dbg : (p == ("__debug__" : Str)) = false
section
variable {prog : Program} {w : World} {A : Around} {E : Value → Shared → Prop} {s : Shared}
/-- one call of it -/
theorem lam_item {f c' t : Addr} {q p : Str} {ps : Arguments} {sc : Scope} {p1 p2 p3 : Pos} {pm ctv : Value} {items : Array Value} {k : Int} {tk : Tok} {Q : Value → Shared → Prop} (L : LamOk p ps sc)
    (ho : s.heap.get? f = some (PySem.W.kla_obj "<lambda>" q ps (firstOfB p p1 p2 p3) sc [] pm c' ctv)) (hc : ∃ (oc : Obj) (vs : Array Value) (t : Tok), s.heap.get? c' = some oc ∧ oc.data = .fields vs ∧ vs[1]? = some (.str q t))
    (ht : IsTup s.heap t items) (h0 : items[0]? = some (.int k tk)) (hA : A.depth < recursionLimit) (lim : s.heap.NoLimit)
    (hQ : ∀ h' tk', (∀ b o, s.heap.get? b = some o → h'.get? b = some o) → Q (.int k tk) { s with heap := h', toks := tk' }) :
    wpAny (model prog w) A (call (.ref f) [.ref t]) Q E s := by
  obtain ⟨oc, vs, tq, hoc, hdc, hvc⟩ := hc
  refine wpAny_call (PySem.W.kla_callFunE hA ho rfl L.co L.gen rfl ⟨c', oc, vs, tq, rfl, hoc, hdc, hvc⟩ ?_)
  rw [L.bind]
  refine wpAny_pure (wpAny_newFunctionEnv (fun y hy => ?_) (fun y hy => ?_) (fun h₁ hns hsb => ⟨lim.fresh _ hsb, ?_⟩) L.kind)
  · have hy : y ∈ sc.names := hy
    rw [L.names] at hy
    rw [List.mem_singleton.mp hy]
    intro z
    cases z
  · rw [List.mem_singleton.mp hy]
    show sc.names.lookup p = _
    rw [L.names]
    simp
  have kp : ∀ b o, s.heap.get? b = some o → h₁.get? b = some o := fun b o e => hsb.extBut b o (Nat.ne_of_lt (Heap.lt_size e)) (Heap.get?_push_of_some _ e)
  refine PySem.W.kla_codeExpr (Subscript_ (wpAny_Name (wpAny_loadName_local (m := fun x => ([(p, Value.ref t)] : List (Str × Value)).reverse.lookup x) (v := .ref t) L.kind ?_ hns ?_ (wpAny_Constant_int ?_)) L.dbg))
  · show sc.names.lookup p = _
    rw [L.names]
    simp
  · simp
  have ht' : IsTup h₁ t items := by
    obtain ⟨o, e1, e2⟩ := ht
    exact ⟨o, kp _ _ e1, e2⟩
  have hlt : 0 < items.size := by
    rcases Nat.lt_or_ge 0 items.size with z | z
    · exact z
    · rw [Array.getElem?_eq_none z] at h0
      cases h0
  refine subscriptTail_builtinR (x := .int k tk) (IsTup.typeIs ht') slot_tuple_getitem.lookup (getItem_tuple (j := 0) ht' (by decide) (by decide) ?_ h0 ⟨rfl, hQ _ _ kp⟩) rfl
  rw [seqIndex_of (by decide) (by omega)]
  rfl
end
/-- the values are tuples that begin with these numbers -/
def IsHd : Hp → V → Int → Prop := fun H v k => ∃ b r, v = .ref b ∧ H b = some (.tup (.int k :: r))
theorem tst_Hd : Tst IsHd := fun _ _ _ _ e h => by
  obtain ⟨b, r, h1, h2⟩ := h
  exact ⟨b, r, h1, e _ _ h2⟩
/-- all objects of a heap but one -/
def others (h : Heap) (L : Addr) : List (Addr × Obj) := (List.range h.objs.size).filterMap fun b => if b = L then none else (h.get? b).map fun o => (b, o)
theorem mem_others {h : Heap} {L b : Addr} {o : Obj} (e : h.get? b = some o) (n : b ≠ L) : (b, o) ∈ others h L := by
  refine List.mem_filterMap.mpr ⟨b, List.mem_range.mpr (Heap.lt_size e), ?_⟩
  rw [if_neg n, e]
  rfl
theorem of_others {h : Heap} {L : Addr} {p : Addr × Obj} (m : p ∈ others h L) : h.get? p.1 = some p.2 ∧ p.1 ≠ L := by
  obtain ⟨b, _, e⟩ := List.mem_filterMap.mp m
  by_cases n : b = L
  · rw [if_pos n] at e
    cases e
  · rw [if_neg n] at e
    obtain ⟨o, ho, rfl⟩ := Option.map_eq_some_iff.mp e
    exact ⟨ho, n⟩
section
variable {X : Cx} {pins : List (Addr × Obj)} {σ : L2.St} {H : Hp} {s : Shared}
/-- all objects stay but the frame's own namespace, which says the same -/
theorem inv_others {h' : Heap} {t' : Nat} {m : Str → Option Value} (I : Inv X pins σ H s) (hm : s.heap.Ns X.env.locals m) (hm' : h'.Ns X.env.locals m) (k : ∀ b o, b ≠ X.env.locals → s.heap.get? b = some o → h'.get? b = some o) : Inv X pins σ H { s with heap := h', toks := t' } := by
  have nL : ∀ b u, H b = some u → b ≠ X.env.locals := fun b u e => ne_of_none e I.free
  refine I.step (g' := s.gens) (d' := s.drawn) (ch := []) (fun _ z => nomatch z) (fun b o n _ _ e _ => k b o n e) (fun b o n _ _ e _ => ⟨o.slots, k b o n e⟩) (fun _ _ _ _ n => n) (fun b o _ e => ?_) (fun _ _ e => e) (fun _ _ _ e => e) (fun b ps e => ⟨#[], by rw [e]; simp⟩) (fun m0 h0 => ?_) (fun b u e => ?_) I.bare
  · by_cases n : b = X.env.locals
    · obtain ⟨o', _, _, e', _⟩ := hm'
      exact ⟨o', by rw [n]; exact e'⟩
    · exact ⟨o, k b o n e⟩
  · have e0 : m0 = m := h0.eq_nsMap.trans hm.eq_nsMap.symm
    rw [e0]
    exact hm'
  · refine (I.hok b u e).stay (fun c v hc q => k c v ?_ q) (fun _ q => q) fun _ _ q => q
    rcases hc with z | z
    · rw [z]
      exact nL b u e
    · exact nL c _ z
def rMinKey (K : PySem.W.Frag) : V → Hp → VK → Prop := fun x H Q => ∃ (a : Addr) (ys : List V) (ks : List Int), x = .ref a ∧ SqL K H a ys ∧ All IsHd H ys ks ∧ 0 < ks.length ∧ ∀ (i : Nat) (x : V) (k : Int), ys[i]? = some x → ks[i]? = some k → (∀ k' ∈ ks, k ≤ k') → Q x H
theorem min_core {q p : Str} {ps : Arguments} {sc : Scope} {p1 p2 p3 : Pos} (hc : X.calm = true) (L : LamOk p ps sc) (hA : X.A.in1.depth < recursionLimit) {f c' : Addr} {pm ctv : Value} {x : V} {u : Value} {Q : VK} (I : Inv X pins σ H s) (rx : RelV x u)
    (hfo : s.heap.get? f = some (PySem.W.kla_obj "<lambda>" q ps (firstOfB p p1 p2 p3) sc [] pm c' ctv)) (hcc : H c' = some (CodeO c' q)) (h : rMinKey X.K x H Q) : wpAny (model X.prog X.w) X.A (call (.builtin "min") [u] [(Str.ofString "key", .ref f)]) (EP X pins σ Q) X.xe s := by
  obtain ⟨a, ys, ks, rfl, hs, hh, hne, hq⟩ := h
  obtain ⟨its, rv, hl, _⟩ := I.list hs
  obtain rfl : u = Value.ref a := rx
  obtain ⟨⟨oc, vs, tq, hoc, hdc, hvc⟩, _, _⟩ := (show ObjOk X.prog X.w H s.heap c' (.ext _) from I.hok c' _ hcc)
  obtain ⟨m, hm, _⟩ := id I.loc
  have hlen : its.length = ks.length := by rw [← rv.length, hh.length]
  obtain ⟨ol, ho1, ho2, n, ho3⟩ := hl.isList
  have nloc : ∀ b u, H b = some u → b ≠ X.env.locals := fun b u e => ne_of_none e I.free
  have nf : f ≠ X.env.locals := fun e => by
    obtain ⟨o', es, ep, e1, e2, _⟩ := hm
    rw [← e, hfo] at e1
    cases e1
    cases e2
  have nl : a ≠ X.env.locals := fun e => by
    obtain ⟨o', es, ep, e1, e2, _⟩ := hm
    rw [← e, ho1] at e1
    cases e1
    rw [ho3] at e2
    cases e2
  have none0 : ∀ b : Addr, (default : Heap).get? b = none := fun b => by
    cases q : (default : Heap).get? b with
    | none => rfl
    | some o =>
      have z := Heap.lt_size q
      exact absurd z (Nat.not_lt_zero _)
  have E0 : Fr (default : Heap) X.env.locals s.heap m := ⟨hm, fun b o e => (by rw [none0 b] at e; cases e), Nat.zero_le _⟩
  have N0 : News (default : Heap) X.env.locals s.heap (others s.heap X.env.locals) := fun p hp => ⟨(of_others hp).1, (of_others hp).2, none0 _⟩
  have kpN : ∀ {h : Heap} {more : List (Addr × Obj)}, News (default : Heap) X.env.locals h (others s.heap X.env.locals ++ more) → ∀ b o, b ≠ X.env.locals → s.heap.get? b = some o → h.get? b = some o := fun N b o n e => (N (b, o) (List.mem_append_left _ (mem_others e n))).1
  have kpM : ∀ {h : Heap}, News (default : Heap) X.env.locals h (others s.heap X.env.locals) → ∀ b o, b ≠ X.env.locals → s.heap.get? b = some o → h.get? b = some o := fun N b o n e => (N (b, o) (mem_others e n)).1
  refine kmk_min (fun i => ks.getD i 0) (I.ok.hd hc) E0 N0 (fun h F N => ⟨ol, kpM N _ _ nl ho1, ho2, n, ho3⟩) (by rw [hlen]; exact hne) (fun i v hv h tk own F N => ?_) fun i v h' tk' hv hb F N => ?_
  · have hi : i < its.length := (List.getElem?_eq_some_iff.mp hv).1
    obtain ⟨x, hx⟩ : ∃ x, ys[i]? = some x := ⟨ys[i]'(by rw [rv.length]; exact hi), List.getElem?_eq_getElem _⟩
    obtain ⟨k, hk, b, r, rfl, hb⟩ := paired_of hh hx
    obtain ⟨u, hu, ru⟩ := rv.get hx
    obtain rfl := Option.some.inj (hv.symm.trans hu)
    obtain rfl : v = Value.ref b := ru
    obtain ⟨_, tis, rt, ob, hb1, hb2, nb, hb3⟩ := (show ObjOk X.prog X.w H s.heap b (.tup (.int k :: r)) from I.hok b _ hb)
    cases rt with
    | cons r0 rt =>
      obtain ⟨t0, rfl⟩ := r0
      have lim : h.NoLimit := by
        obtain ⟨mc, h1, h2⟩ := I.nolimit
        by_cases e : cStatics = X.env.locals
        · refine ⟨mc, ?_, h2⟩
          rw [e] at h1 ⊢
          have e0 : mc = m := h1.eq_nsMap.trans hm.eq_nsMap.symm
          rw [e0]
          exact F.ns
        · exact ⟨mc, h1.at fun o q => kpN N _ _ e q, h2⟩
      refine lam_item (k := k) (tk := t0) L (kpN N _ _ nf hfo) ⟨oc, vs, tq, kpN N _ _ (nloc _ _ hcc) hoc, hdc, hvc⟩ ⟨ob, kpN N _ _ (nloc _ _ hb) hb1, hb2, nb, hb3⟩ (by simp) hA lim fun h2 tk2 hk2 => ?_
      refine ⟨h2, tk2, t0, rfl, ?_, ⟨F.ns.keeps hk2, fun b o e => (by rw [none0 b] at e; cases e), Nat.zero_le _⟩, fun p hp => ?_⟩
      · have e : ks.getD i 0 = k := by simp [List.getD, hk]
        show Value.int k t0 = .int (ks.getD i 0) t0
        rw [e]
      · obtain ⟨z1, z2, z3⟩ := N p hp
        exact ⟨hk2 _ _ z1, z2, z3⟩
  · have hi : i < its.length := (List.getElem?_eq_some_iff.mp hv).1
    obtain ⟨x, hx⟩ : ∃ x, ys[i]? = some x := ⟨ys[i]'(by rw [rv.length]; exact hi), List.getElem?_eq_getElem _⟩
    obtain ⟨k, hk, hr⟩ := paired_of hh hx
    obtain ⟨u, hu, ru⟩ := rv.get hx
    obtain rfl := Option.some.inj (hv.symm.trans hu)
    refine ⟨x, H, inv_others I hm F.ns fun b o n e => kpM N b o n e, ru, hq i x k hx hk fun k' hk' => ?_⟩
    obtain ⟨j, hj⟩ := List.mem_iff_getElem?.mp hk'
    have hjl : j < its.length := by rw [hlen]; exact (List.getElem?_eq_some_iff.mp hj).1
    have z := (hb j hjl).1
    have e1 : ks.getD i 0 = k := by simp [List.getD, hk]
    have e2 : ks.getD j 0 = k' := by simp [List.getD, hj]
    rw [e1, e2] at z
    exact z
/-- min(e, key=lambda p: p[0]) -/
def tMinKey (K : PySem.W.Frag) (T : List (Addr × Str)) (ta : TA) : TE := fun σ H Q => ta σ H fun vs H1 => ∃ x, vs = [x] ∧ Tabs T H1 ∧ ∀ H2, ExtN H1 H2 → Tabs T H2 → rMinKey K x H2 Q
theorem pe_minKey {K : PySem.W.Frag} {T : List (Addr × Str)} {c P : Addr} {q p : Str} {ps : Arguments} {sc : Scope} {p1 p2 p3 pp pos lpos kpos : Pos} {e : Expr} {ta : TA} (hc : X.calm = true) (L : LamOk p ps sc) (hA : X.A.in1.depth < recursionLimit) (hg : Gl X "min") (hm : X.mg "min" = none)
    (TB : TabB X.base X.mg c P) (hcode : X.env.code = .ref c) (hq : X.env.qual ++ "<lambda>" = q) (hmT : (P, q) ∈ T) (hu : ∀ p ∈ T, p.1 = P → p.2 = q) (hdef : defaultsOf ps X.env = ([], [])) (ha : PA X [e] ta)
    (h1 : backTo pos (starEach [e] X.env) = (false, eval e X.env) :: backTo pos (starEach [] X.env) := by rfl) (hpl : (backTo pos (starEach [e] X.env)).any (·.1) = false := by rfl)
    (hall : (backToKw pos (keywordEach [⟨some "key", .Lambda ps (firstOfB p p1 p2 p3) sc lpos, kpos⟩] X.env)).all (·.1.isSome) = true := by rfl) (hnone : (backToKw pos (keywordEach [⟨some "key", .Lambda ps (firstOfB p p1 p2 p3) sc lpos, kpos⟩] X.env)).any (·.1.isNone) = false := by rfl)
    (hks : (backToKw pos (keywordEach [⟨some "key", .Lambda ps (firstOfB p p1 p2 p3) sc lpos, kpos⟩] X.env)).filterMap (·.1) = [Str.ofString "key"] := by rfl) (eK : X.K = K := by rfl) :
    PE X (.Call (.Name "min" pp) [e] [⟨some "key", .Lambda ps (firstOfB p p1 p2 p3) sc lpos, kpos⟩] pos) (tMinKey K T ta) := by
  subst eK hq
  refine ⟨fun pins s σ H Q I h => ?_⟩
  refine wpAny_Call_Name_kw (ld_blt I hg hm (show bootBuiltins "min" = some (.builtin "min") by decide +kernel) ?_ (by decide) (by decide))
  refine PyProof.Rows.callWith_kw (thn (ha.run pos pins s σ H _ I h) fun us s1 ⟨vs, H1, I1, r1, x, ex, hT, q1⟩ => ?_) h1 hpl hall hnone
  subst ex
  obtain ⟨u, rfl, ru⟩ := r1.one
  rw [hks]
  have cl : cloFrom X.env.cells sc.names [] = [] := by
    rw [L.names]
    rfl
  show wpAny _ _ (evalAll ((do let v ← eval (.Lambda ps (firstOfB p p1 p2 p3) sc lpos) X.env; standAt pos; pure v) :: [])) _ _ s1
  refine wpAny_evalAll_cons (wpAny_bind (LamX.lam_make2 I1 TB hcode hmT hu hT hdef (fun y hy e => ?_) fun f c' pm ctv H2 s2 I2 eN T2 hf hfn hfr hco => ?_))
  · rw [L.names] at hy
    rw [List.mem_singleton.mp hy] at e
    cases e
  · rw [cl] at hf
    refine wpAny_bind (wpAny_standAt (wpAny_pure (wpAny_evalAll_nil ?_)))
    exact min_core hc L hA I2 ru hf hco (q1 H2 eN T2)
end
end K49

namespace K49
open PySem PySem.Spec PyProof.Rows L2
open C8 (Cal Met Mak pe_c pe_mk pe_mt pe_mt0 pe_gc)
open Evl (Ex)
open LamX (Tabs TabB CodeO ExtN)
/-- a def whose code object stands at c -/
structure DfnC (K : PySem.W.Frag) (mg : Str → Option Value) (x : Str) (st : Stmt) (ps : List Str) (vds : List V) (c : Addr) : Prop where
  ex : ∃ (f : Addr) (fd : FuncData) (dvs : List V) (kws : List (Str × V)) (ds : List Value), FunD K x x (defArgs st) (defBody st) (defScope st) dvs kws f fd ∧ fd.code = .ref c ∧ mg x = some (.ref f) ∧ Binds K fd ps ds ∧ Vals vds ds
section
variable {P : Program} {w : World} {K : PySem.W.Frag} {mg : Str → Option Value} {base : Heap} {N ps : List Str} {k : Nat} {sp : Sp} {vds : List V} {c : Addr}
theorem DfnC.cal {x : Str} {st : Stmt} (D : DfnC K mg x st ps vds c) (S : FnScope N ps (defScope st)) (len : ∀ vs H Q E, sp vs H Q E → vs.length = ps.length)
    (hbody : ∀ (f : Addr) (A : Around) (outer : List Env) (s : Shared) (H : Hp) (vs : List V) (Q : VK) (E : XK), Room k (A.deeper (envOfC x (defScope st) s.heap.objs.size f (.ref c))) → sp vs H Q E →
      ∃ t, PSs (cxOf C8.CX0 P w K mg base N x (defScope st) f (.ref c) A outer s H E).nox (defBody st) t ∧ t { nx := fun _ H' => Q .non H', rt := Q } (start N vs) H) : Cal P w K mg base (k + 1) x sp vds := by
  obtain ⟨f, fd, dvs, kws, ds, F, hc, hm, b, vd⟩ := D.ex
  obtain ⟨oc, od, dV, kV, doc, pm, an, cdv, ct, osl, rfl, lk, hcd, _, _⟩ := F.ex
  have hc : cdv = .ref c := hc
  subst hc
  refine ⟨f, _, ps, ds, fn_of lk hcd S len (fun A outer s H vs Q E hr hs => ?_), hm, F.kp, b, vd⟩
  obtain ⟨t, h1, h2⟩ := hbody f A outer s H vs Q E hr hs
  exact ⟨t, PSs.nox h1, h2⟩
/-- never called -/
theorem DfnC.none {x : Str} {st : Stmt} (D : DfnC K mg x st ps vds c) : Cal P w K mg base k x (fun _ _ _ _ => False) vds := by
  obtain ⟨f, fd, dvs, kws, ds, F, _, hm, b, vd⟩ := D.ex
  exact ⟨f, fd, ps, ds, ⟨fun _ _ _ _ h => h.elim, fun _ _ _ _ _ _ _ _ _ _ _ _ _ h => h.elim⟩, hm, F.kp, b, vd⟩
theorem Dfn.none {x : Str} {st : Stmt} (D : Dfn K mg x st ps vds) : Cal P w K mg base k x (fun _ _ _ _ => False) vds := by
  obtain ⟨f, fd, dvs, kws, ds, F, hm, b, vd⟩ := D.ex
  exact ⟨f, fd, ps, ds, ⟨fun _ _ _ _ h => h.elim, fun _ _ _ _ _ _ _ _ _ _ _ _ _ h => h.elim⟩, hm, F.kp, b, vd⟩
end
theorem pt_never {X : Cx} {e : Expr} : PT X e (fun _ _ _ => False) := ⟨fun _ _ _ _ _ _ h => h.elim⟩
/-- all stays but the tables and the dict at d -/
def ExM (d : Addr) (H H' : Hp) : Prop := ∀ b o, H b = some o → (∀ ps, o ≠ .tbl ps) → b ≠ d → H' b = some o
theorem ExM.refl (d : Addr) (H : Hp) : ExM d H H := fun _ _ h _ _ => h
theorem ExM.trans {d : Addr} {H H1 H2 : Hp} (a : ExM d H H1) (b : ExM d H1 H2) : ExM d H H2 := fun c o h n m => b c o (a c o h n m) n m
theorem ExM.of {d : Addr} {H H' : Hp} (e : Ex H H') : ExM d H H' := fun b o h _ _ => e b o h
theorem ExM.ofN {d : Addr} {H H' : Hp} (e : ExtN H H') : ExM d H H' := fun b o h n _ => e b o h n
theorem ExM.put {d : Addr} {H : Hp} {o : HO} : ExM d H (upd H d o) := fun b u h _ n => by
  rw [upd_ne n]
  exact h
theorem ExM.tex {P : Program} {w : World} {d : Addr} {H H' : Hp} {es : List Ent} (hd : H d = some (DKO P w d es)) (e : ExM d H H') : TEx H H' := fun a xs h => e a _ h (fun _ z => nomatch z) (ne_of h hd (by intro z; cases z))
theorem ExM.lst {P : Program} {w : World} {d a : Addr} {H H' : Hp} {es : List Ent} {xs : List V} (hd : H d = some (DKO P w d es)) (e : ExM d H H') (h : H a = some (.lst xs)) : H' a = some (.lst xs) := e a _ h (fun _ z => nomatch z) (ne_of h hd (by intro z; cases z))
theorem ExM.ls {P : Program} {w : World} {d a : Addr} {H H' : Hp} {es : List Ent} {β : Type} {R : Hp → V → β → Prop} {ds : List β} (s : Tst R) (hd : H d = some (DKO P w d es)) (e : ExM d H H') (h : Ls R H a ds) : Ls R H' a ds := by
  obtain ⟨xs, h1, h2⟩ := h
  exact ⟨xs, e.lst hd h1, h2.tmono s (e.tex hd)⟩
/-- behind a change of a new list (at p, fresh in H) -/
theorem ExM.mut {d p : Addr} {H H' : Hp} {o : HO} (e : ExM d H H') (h : H p = none) : ExM d H (upd H' p o) := fun b u q n m => by
  rw [upd_ne (ne_of_none q h)]
  exact e b u q n m
theorem dko_ne_code {P : Program} {w : World} {d : Addr} {xs : List Ent} (c : Addr) (q : Str) : DKO P w d xs ≠ CodeO c q := fun z => by
  unfold DKO CodeO at z
  injection z with z
  have gt : ∀ a : Addr, a ≤ Nat.add c d → Heap.get? { objs := Array.replicate (Nat.add c d + 1) ({ cls := .none, data := .fields #[.none, .str q 0] } : Obj) } a = some ({ cls := .none, data := .fields #[.none, .str q 0] } : Obj) := fun a ha => by
    unfold Heap.get?
    have e : (Array.replicate (Nat.add c d + 1) ({ cls := .none, data := .fields #[.none, .str q 0] } : Obj))[a]? = some ({ cls := .none, data := .fields #[.none, .str q 0] } : Obj) := by
      rw [Array.getElem?_replicate, if_pos (Nat.lt_succ_of_le ha)]
    simp only [e]
  have hd := (congrFun z _).mpr ⟨_, _, 0, gt c (Nat.le_add_right c d), rfl, rfl⟩
  obtain ⟨_, _, vs, _, o, es, ep, h1, _, h3, _⟩ := hd
  rw [gt d (Nat.le_add_left d c)] at h1
  cases h1
  cases h3
/-- the tables stay -/
theorem tabs_upd {T : List (Addr × Str)} {H : Hp} {p : Addr} {o u : HO} (t : Tabs T H) (h : H p = some u) (n1 : ∀ ps, u ≠ .tbl ps) (n2 : ∀ c q, u ≠ CodeO c q) : Tabs T (upd H p o) := fun x hx => by
  obtain ⟨ps, h1, h2, h3⟩ := t x hx
  refine ⟨ps, by rw [upd_ne (ne_of h1 h (fun z => n1 ps z.symm))]; exact h1, h2, fun pos cv hc => ?_⟩
  obtain ⟨c, e1, e2⟩ := h3 pos cv hc
  exact ⟨c, e1, by rw [upd_ne (ne_of e2 h (fun z => n2 _ _ z.symm))]; exact e2⟩
/-- the memo: its keys parts of S, its values right -/
def MemoAt (P : Program) (w : World) (S : List (List (List Bool))) (Gd : Hp → V → Int → Prop) (val : List (List Bool) → Int) (H : Hp) (d : Addr) : Prop := ∃ xs, H d = some (DKO P w d xs) ∧ KsAt H xs ∧ (xs.map (·.1)).Nodup ∧ ∀ x ∈ xs, ∃ r ∈ S, x.1 = nkR r ∧ Gd H x.2.2 (val r)
section
variable {P : Program} {w : World} {S : List (List (List Bool))} {Gd : Hp → V → Int → Prop} {val : List (List Bool) → Int} {H H' : Hp} {d : Addr}
theorem MemoAt.mono (t : Tst Gd) (m : MemoAt P w S Gd val H d) (e : TEx H H') (hd : ∀ o, H d = some o → H' d = some o) : MemoAt P w S Gd val H' d := by
  obtain ⟨xs, h1, h2, h3, h4⟩ := m
  refine ⟨xs, hd _ h1, h2.mono e, h3, fun x hx => ?_⟩
  obtain ⟨r, a, b, c⟩ := h4 x hx
  exact ⟨r, a, b, t _ _ _ _ e c⟩
theorem MemoAt.ex (t : Tst Gd) (m : MemoAt P w S Gd val H d) (e : Ex H H') : MemoAt P w S Gd val H' d := m.mono t (Ex.tex e) fun o h => e _ _ h
theorem MemoAt.len (m : MemoAt P w S Gd val H d) {xs : List Ent} (h : H d = some (DKO P w d xs)) (hS : S.length ≤ 1000) (nd : (xs.map (·.1)).Nodup) (hk : ∀ x ∈ xs, ∃ r ∈ S, x.1 = nkR r) : xs.length ≤ 1000 := by
  have z := nodup_sub (m := S.map nkR) nd fun k hk' => by
    obtain ⟨x, hx, rfl⟩ := List.mem_map.mp hk'
    obtain ⟨r, hr, e⟩ := hk x hx
    exact List.mem_map.mpr ⟨r, hr, e.symm⟩
  rw [List.length_map, List.length_map] at z
  omega
/-- what is looked up is right -/
theorem memo_at {xs : List Ent} {r : List (List Bool)} (h : hasX xs (nkR r) = true) (h4 : ∀ x ∈ xs, ∃ r ∈ S, x.1 = nkR r ∧ Gd H x.2.2 (val r)) : ∃ v, atX xs (nkR r) = some v ∧ Gd H v (val r) := by
  rw [hasX_at] at h
  obtain ⟨v, hv⟩ := Option.isSome_iff_exists.mp h
  obtain ⟨a, ha⟩ := atX_mem hv
  obtain ⟨r', _, e, g⟩ := h4 _ ha
  have er := nkR_inj e
  exact ⟨v, hv, by rw [er]; exact g⟩
theorem hasX_put (xs : List Ent) (k : NestedKey) (a : Addr) (v : V) : hasX (putX xs k a v) k = true := by
  rw [hasX_keys, keys_putX]
  refine decide_eq_true ?_
  split
  · assumption
  · simp
theorem nodup_put {xs : List Ent} (k : NestedKey) (a : Addr) (v : V) (h : (xs.map (·.1)).Nodup) : ((putX xs k a v).map (·.1)).Nodup := by
  rw [keys_putX]
  split
  · exact h
  · rw [List.nodup_append]
    refine ⟨h, by simp, fun x hx y hy e => ?_⟩
    rw [List.mem_singleton.mp hy] at e
    subst e
    contradiction
theorem good_put {xs : List Ent} {r : List (List Bool)} {a : Addr} {v : V} (hr : r ∈ S) (g : Gd H v (val r)) (h4 : ∀ x ∈ xs, ∃ r ∈ S, x.1 = nkR r ∧ Gd H x.2.2 (val r)) : ∀ x ∈ putX xs (nkR r) a v, ∃ r ∈ S, x.1 = nkR r ∧ Gd H x.2.2 (val r) := fun x hx => by
  rcases mem_putX hx with z | ⟨e1, e2, _⟩
  · exact h4 x z
  · exact ⟨r, hr, e1, by rw [e2]; exact g⟩
end
/-- the parts of rows0 -/
def parts0 (n : Nat) (rows0 : List (List Bool)) : List (List (List Bool)) := (allS n).map (partOf rows0)
theorem parts0_len {n : Nat} (h : n ≤ 5) (rows0 : List (List Bool)) : (parts0 n rows0).length ≤ 1000 := by
  unfold parts0
  rw [List.length_map, allS_len]
  have := Nat.pow_le_pow_right (n := 3) (by decide) h
  omega
/-- a part of rows0 of labels told but for m at most -/
structure PartIs (n m : Nat) (rows0 : List (List Bool)) (rows : List (List Bool)) : Prop where
  n5 : n ≤ 5
  nd : rows0.Nodup
  len : ∀ l ∈ rows0, l.length = n
  few : rows0.length ≤ 1000
  ne : 1 ≤ rows.length
  ex : ∃ σ : List (Option Bool), σ.length = n ∧ σ.count none ≤ m ∧ rows = partOf rows0 σ
theorem PartIs.mem {n m : Nat} {rows0 rows : List (List Bool)} (h : PartIs n m rows0 rows) : rows ∈ parts0 n rows0 := by
  obtain ⟨σ, h1, h2, rfl⟩ := h.ex
  exact List.mem_map.mpr ⟨σ, mem_allS h1, rfl⟩
theorem PartIs.sub {n m : Nat} {rows0 rows : List (List Bool)} (h : PartIs n m rows0 rows) : (∀ l ∈ rows, l.length = n) ∧ rows.Nodup ∧ rows.length ≤ 1000 := by
  obtain ⟨σ, h1, h2, rfl⟩ := h.ex
  exact ⟨fun l hl => h.len l (List.mem_filter.mp hl).1, h.nd.sublist List.filter_sublist, Nat.le_trans (List.length_filter_le _ _) h.few⟩
theorem PartIs.half {n m i : Nat} {rows0 rows : List (List Bool)} (h : PartIs n (m + 1) rows0 rows) (hi : i < n) (hs : split i rows = true) : PartIs n m rows0 (halfF i rows) ∧ PartIs n m rows0 (halfT i rows) := by
  obtain ⟨σ, h1, h2, rfl⟩ := h.ex
  obtain ⟨z1, z2, _, _⟩ := split_lt hs
  obtain ⟨e1, e2, e3⟩ := split_part (by omega) hs
  have c1 := count_set (b := false) e1
  have c2 := count_set (b := true) e1
  exact ⟨⟨h.n5, h.nd, h.len, h.few, z1, σ.set i (some false), by rw [List.length_set]; exact h1, by omega, e2⟩, ⟨h.n5, h.nd, h.len, h.few, z2, σ.set i (some true), by rw [List.length_set]; exact h1, by omega, e3⟩⟩
theorem PartIs.splits0 {n : Nat} {i : Nat} {rows0 rows : List (List Bool)} (h : PartIs n 0 rows0 rows) (hi : i < n) : split i rows = false := by
  obtain ⟨σ, h1, h2, rfl⟩ := h.ex
  cases hs : split i (partOf rows0 σ) with
  | false => rfl
  | true =>
    obtain ⟨e1, _, _⟩ := split_part (by omega) hs
    have := count_set (b := false) e1
    omega
def GoodV : Hp → V → Int → Prop := fun H v c => ∃ b y, v = .ref b ∧ H b = some (.tup [.int c, y])
theorem tst_Good : Tst GoodV := fun _ _ _ _ e h => by
  obtain ⟨b, y, h1, h2⟩ := h
  exact ⟨b, y, h1, e _ _ h2⟩
def spHalved : Sp := fun vs H Q _ => ∃ (r : Addr) (i n : Nat) (rows : List (List Bool)), vs = [.ref r, .int i] ∧ Ls IsB H r rows ∧ i < n ∧ (∀ l ∈ rows, l.length = n) ∧ rows.length ≤ 1000 ∧
  ∀ t p q H', Ex H H' → H' t = some (.tup [.ref p, .ref q]) → Ls IsB H' p (halfF i rows) → Ls IsB H' q (halfT i rows) → Q (.ref t) H'
def spPrices : Sp := fun vs H Q _ => ∃ (a : Addr) (ps : List (List Int)), vs = [.ref a, .non] ∧ Ls IsP H a ps ∧ ps.length ≤ 100 ∧ RL IsI (ps.map fun _ => 1) H Q
def spCheapest (P : Program) (w : World) (T : List (Addr × Str)) (n : Nat) (rows0 : List (List Bool)) : Nat → Sp
  | 0 => fun _ _ _ _ => False
  | m + 1 => fun vs H Q _ => ∃ (r pr d : Addr) (rows : List (List Bool)), vs = [.ref r, .ref pr, .ref d] ∧ Ls IsB H r rows ∧ PartIs n m rows0 rows ∧ Ls IsI H pr (List.replicate n 1) ∧ MemoAt P w (parts0 n rows0) GoodV (cost n) H d ∧ Tabs T H ∧
    ∀ v H', ExM d H H' → MemoAt P w (parts0 n rows0) GoodV (cost n) H' d → Tabs T H' → GoodV H' v (cost n rows) → Q v H'
theorem roomA {k : Nat} {A : Around} (hr : Room k A) : A.in1.depth < recursionLimit := by
  have := hr.dp
  show A.depth < _
  omega
def lamQ : Str := ("cheapest" ++ ".<locals>.") ++ "<lambda>"
/-- the values of the splits below i -/
def splitsTo (f : List (List Bool) → List (List Bool) → Int) (rows : List (List Bool)) (i : Nat) : List Int := ((List.range i).filter fun i => split i rows).map fun i => f (halfF i rows) (halfT i rows)
theorem splitsTo_succ {f : List (List Bool) → List (List Bool) → Int} {rows : List (List Bool)} {i : Nat} : splitsTo f rows (i + 1) = splitsTo f rows i ++ if split i rows = true then [f (halfF i rows) (halfT i rows)] else [] := by
  unfold splitsTo
  rw [List.range_succ, List.filter_append, List.map_append]
  congr 1
  cases h : split i rows <;> simp [List.filter_cons, h]
theorem splitsTo_len {f : List (List Bool) → List (List Bool) → Int} {rows : List (List Bool)} {i : Nat} : (splitsTo f rows i).length ≤ i := by
  unfold splitsTo
  rw [List.length_map]
  have := List.length_filter_le (fun i => split i rows) (List.range i)
  rw [List.length_range] at this
  exact this
section
variable {P : Program} {w : World} {K : PySem.W.Frag} {mg : Str → Option Value} {base : Heap}
theorem sc_halved : FnScope ["rows", "index", "labels"] ["rows", "index"] (defScope s_halved) := C8.fnScope_by (by decide +kernel)
theorem cal_halved (T : Txt mg) (D : Dfn K mg "halved" s_halved ["rows", "index"] []) : Cal P w K mg base (1) "halved" (spHalved) [] := by
  have nd := sc_halved.nd
  refine D.cal sc_halved (fun vs H Q E h => by obtain ⟨r, i, n, rows, rfl, hL, hi, hn, hrl, hQ⟩ := h; rfl) (fun f cdv A outer s H vs Q E hr h => ?_)
  obtain ⟨r, i, n, rows, rfl, hL, hi, hn, hrl, hQ⟩ := h
  refine ⟨_, (pss_one (ps_ret (pe_tup (pa_cons (pe_lc rfl nd (kpi_list K (pv 0)) (blkOk_by (own := [("labels", 2)]) (N := ["rows", "index", "labels"]) (sc := defScope s_halved) (by decide +kernel)) (fun _ _ _ _ _ => (pg_name (i := 2) nd rfl (Or.inl rfl))) (fun _ _ _ _ _ => (pts_one (pt_not (pt_val (pe_ix (kix_tup K) (pv 2) (pv 1) (fun _ _ => rfl)))))) (fun _ _ _ _ _ => (pv 2))) (pa_cons (pe_lc rfl nd (kpi_list K (pv 0)) (blkOk_by (own := [("labels", 2)]) (N := ["rows", "index", "labels"]) (sc := defScope s_halved) (by decide +kernel)) (fun _ _ _ _ _ => (pg_name (i := 2) nd rfl (Or.inl rfl))) (fun _ _ _ _ _ => (pts_one (pt_val (pe_ix (kix_tup K) (pv 2) (pv 1) (fun _ _ => rfl))))) (fun _ _ _ _ _ => (pv 2))) pa_nil))))), ?_⟩
  obtain ⟨xs, hr1, hxs⟩ := hL
  have hxl := hxs.length
  refine ⟨_, rfl, r, rfl, ⟨xs, SqL.of hr1⟩, fun D hD => lc_data rows (fun l => !l.getD i false) IsB (fun l => l) (Y := YAt xs) (G := fun H => SqL K H r xs) (by have z := walk_list (K := K) (a := r) (xs := xs); rw [hxl] at z; exact z) tst_B (by omega) hD (fun H e => SqL.of (e _ _ hr1)) (fun i x H H' h => h.1 ▸ Ex.refl H) (fun j l y H9 H5 hl e5 hy Ky Kn k1 k2 => ?_) (fun H5 e5 hLs => ?_)⟩
  · obtain ⟨rfl, hyj⟩ := hy
    obtain ⟨l', hl', hly⟩ := paired_of hxs hyj
    obtain rfl := Option.some.inj (hl'.symm.trans hl)
    obtain ⟨b, rfl, hb⟩ := tst_B _ _ _ _ (Ex.tex e5) hly
    have hln := hn l' (List.mem_of_getElem? hl)
    refine ⟨rfl, _, rfl, _, rfl, b, _, i, _, rfl, rfl, SqT.of hb, at_B (by omega) (by simpa using (by omega : i < l'.length)), _, rfl, ?_⟩
    rw [Int.toNat_natCast]
    cases hg : l'.getD i false with
    | true => exact iteF (k2 (by simp only [hg]; rfl) _ (Ex.refl _))
    | false => exact iteT ⟨_, rfl, k1 (by simp only [hg]; rfl) _ _ (Ex.refl _) ⟨b, rfl, hb⟩⟩
  · rw [List.map_id'] at hLs
    have hr5 := e5 _ _ hr1
    refine ⟨_, rfl, r, rfl, ⟨xs, SqL.of hr5⟩, fun D2 hD2 => lc_data rows (fun l => l.getD i false) IsB (fun l => l) (Y := YAt xs) (G := fun H => SqL K H r xs) (by have z := walk_list (K := K) (a := r) (xs := xs); rw [hxl] at z; exact z) tst_B (by omega) hD2 (fun H e => SqL.of (e _ _ hr5)) (fun i x H H' h => h.1 ▸ Ex.refl H) (fun j l y H9 H6 hl e6 hy Ky Kn k1 k2 => ?_) (fun H6 e6 hLs2 => ?_)⟩
    · obtain ⟨rfl, hyj⟩ := hy
      obtain ⟨l', hl', hly⟩ := paired_of hxs hyj
      obtain rfl := Option.some.inj (hl'.symm.trans hl)
      obtain ⟨b, rfl, hb⟩ := tst_B _ _ _ _ (Ex.tex (e5.trans e6)) hly
      have hln := hn l' (List.mem_of_getElem? hl)
      refine ⟨rfl, _, rfl, _, rfl, b, _, i, _, rfl, rfl, SqT.of hb, at_B (by omega) (by simpa using (by omega : i < l'.length)), _, rfl, ?_⟩
      rw [Int.toNat_natCast]
      cases hg : l'.getD i false with
      | false => exact iteF (k2 hg _ (Ex.refl _))
      | true => exact iteT ⟨_, rfl, k1 hg _ _ (Ex.refl _) ⟨b, rfl, hb⟩⟩
    · rw [List.map_id'] at hLs2
      refine ⟨by show 2 ≤ sizeLine; decide, fun t ht => ?_⟩
      have e7 := Ex.new (o := .tup [.ref D, .ref D2]) ht
      exact hQ t D D2 _ ((e5.trans e6).trans e7) upd_same (hLs.mono tst_B.sst (e6.trans e7)) (hLs2.mono tst_B.sst e7)
theorem sc_checked_prices : FnScope ["points", "prices", "point", "price"] ["points", "prices"] (defScope s_checked_prices) := C8.fnScope_by (by decide +kernel)
theorem cal_checked_prices (T : Txt mg) (D : Dfn K mg "checked_prices" s_checked_prices ["points", "prices"] []) : Cal P w K mg base (1) "checked_prices" (spPrices) [] := by
  have nd := sc_checked_prices.nd
  refine D.cal sc_checked_prices (fun vs H Q E h => by obtain ⟨a, ps, rfl, hL, hn, hQ⟩ := h; rfl) (fun f cdv A outer s H vs Q E hr h => ?_)
  obtain ⟨a, ps, rfl, hL, hn, hQ⟩ := h
  refine ⟨_, (pss_cons (ps_if (pt_cmpR op_isN1 (pv 1) pe_non (nomark _)) (pss_one (ps_ret (pe_lc rfl nd (kpi_list K (pv 0)) (blkOk_by (own := [("point", 2)]) (N := ["points", "prices", "point", "price"]) (sc := defScope s_checked_prices) (by decide +kernel)) (fun _ _ _ _ _ => (pg_name (i := 2) nd rfl (Or.inl rfl))) (fun _ _ _ _ _ => pts_nil) (fun _ _ _ _ _ => pe_int)))) pss_nil)
      (pss_cons (ps_if (pt_never) pss_never pss_nil)
      (pss_cons (ps_if (pt_never) pss_never pss_nil)
      (pss_one (ps_ret (pe_never)))))), ?_⟩
  obtain ⟨xs, ha, hxs⟩ := hL
  have hxl := hxs.length
  refine ⟨_, rfl, rfl, true, rfl, iteT ⟨_, rfl, a, rfl, ⟨xs, SqL.of ha⟩, fun D hD => lc_data ps (fun _ => true) IsI (fun _ => 1) (Y := YAt xs) (G := fun H => SqL K H a xs) (by have z := walk_list (K := K) (a := a) (xs := xs); rw [hxl] at z; exact z) tst_I (by omega) hD (fun H e => SqL.of (e _ _ ha)) (fun i x H H' h => h.1 ▸ Ex.refl H) (fun j l y H9 H5 hl e5 hy Ky Kn k1 k2 => ?_) (fun H5 e5 hLs => ?_)⟩⟩
  · obtain ⟨rfl, hyj⟩ := hy
    exact ⟨rfl, k1 rfl _ _ (Ex.refl _) rfl⟩
  · rw [filter_all] at hLs
    exact hQ D H5 hD e5 hLs
theorem sc_cheapest : FnScope ["rows", "prices", "known", "key", "found", "index", "price", "noes", "yeses", "one", "other"] ["rows", "prices", "known"] (defScope s_cheapest) := C8.fnScope_by (by decide +kernel)
theorem cal_cheapest
    {c Pt : Addr} (TB : TabB base mg c Pt) {n m k : Nat} {rows0 : List (List Bool)} (hk : 1 ≤ k)
    (C_cheapest : Cal P w K mg base k "cheapest" (spCheapest P w [(Pt, lamQ)] n rows0 m) [])
    (C_halved : Cal P w K mg base 1 "halved" spHalved []) (T : Txt mg) (D : DfnC K mg "cheapest" s_cheapest ["rows", "prices", "known"] [] c) : Cal P w K mg base (k + 1) "cheapest" (spCheapest P w [(Pt, lamQ)] n rows0 (m + 1)) [] := by
  have nd := sc_cheapest.nd
  refine D.cal sc_cheapest (fun vs H Q E h => by obtain ⟨r, pr, d, rows, rfl, hL, hP, hpr, hM, hT, hQ⟩ := h; rfl) (fun f A outer s H vs Q E hr h => ?_)
  obtain ⟨r, pr, d, rows, rfl, hL, hP, hpr, hM, hT, hQ⟩ := h
  have hu9 := room9 hr
  have hu64 := room64 hr
  refine ⟨_, (pss_cons (ps_if (pt_cmpR op_eq (pe_callB (klen K) rfl T.b_len PySem.boot_len (pa_cons (pv 0) pa_nil)) pe_int (nomark _)) (pss_one (ps_ret (pe_tup (pa_cons pe_int (pa_cons (pe_ix (kix_list K) (pv 0) pe_int (fun _ _ => rfl)) pa_nil))))) pss_nil)
      (pss_cons (ps_set (i := 3) nd rfl (Or.inl rfl) (kpe_tupleOf K rfl T.b_tuple (pv 0)))
      (pss_cons (ps_if (pt_cmpR (op_notInX (P := P) (w := w) hu9) (pv 3) (pv 2) (by with_unfolding_all rfl)) (pss_cons (ps_set (i := 4) nd rfl (Or.inl rfl) (pe_lst pa_nil))
      (pss_cons (ps_for PassesOwn.never rfl (kpi_enum K rfl T.b_enumerate (pa_cons (pv 1) pa_nil)) (kpg_tup K 2 rfl (pgs_cons (pg_name (i := 5) nd rfl (Or.inl rfl)) (pgs_cons (pg_name (i := 6) nd rfl (Or.inl rfl)) pgs_nil))) (pss_cons (ps_asg (pe_c C_halved hr (by omega) rfl (pa_cons (pv 0) (pa_cons (pv 5) pa_nil))) (kpg_tup K 2 rfl (pgs_cons (pg_name (i := 7) nd rfl (Or.inl rfl)) (pgs_cons (pg_name (i := 8) nd rfl (Or.inl rfl)) pgs_nil))))
      (pss_one (ps_if (PW.pt (pw_and (pt_cmpR (kneD K hu64) (pv 7) (pe_lst pa_nil) (nomark _)) (pw_and1 (pt_cmpR (kneD K hu64) (pv 8) (pe_lst pa_nil) (nomark _))))) (pss_cons (ps_par (i := 9) (j := 10) rfl nd rfl rfl (by decide) rfl rfl (pa_cons (pe_c C_cheapest hr (by omega) rfl (pa_cons (pv 7) (pa_cons (pv 1) (pa_cons (pv 2) pa_nil)))) (pa_cons (pe_c C_cheapest hr (by omega) rfl (pa_cons (pv 8) (pa_cons (pv 1) (pa_cons (pv 2) pa_nil)))) pa_nil)) rfl)
      (pss_one (ps_expr (kpe_bm K PySem.F.plainAttrs_list PySem.F.slot_list_append PySem.F.type_list_append mt_append (pv 4) (pa_cons (pe_tup (pa_cons (pe_op op_add (pv 6) (pe_callB (call_max2 rfl) rfl T.b_max (by decide +kernel) (pa_cons (pe_ix (kix_tup K) (pv 9) pe_int (fun _ _ => rfl)) (pa_cons (pe_ix (kix_tup K) (pv 10) pe_int (fun _ _ => rfl)) pa_nil)))) (pa_cons (pe_tup (pa_cons (pv 5) (pa_cons (pe_ix (kix_tup K) (pv 9) pe_int (fun _ _ => rfl)) (pa_cons (pe_ix (kix_tup K) (pv 10) pe_int (fun _ _ => rfl)) pa_nil)))) pa_nil))) pa_nil))))) pss_nil))))
      (pss_one (ps_asg (pe_minKey (K := K) (T := [(Pt, lamQ)]) (q := lamQ) (P := Pt) rfl ⟨rfl, rfl, rfl, rfl, fun _ _ _ _ _ _ _ => rfl, by decide⟩ (roomA hr) rfl T.b_min TB rfl rfl (List.mem_singleton.mpr rfl) (fun p hp _ => by rw [List.mem_singleton.mp hp]) rfl (pa_cons (pv 4) pa_nil)) (pg_sub (pv 2) (pv 3) (set_X (P := P) (w := w) hu9)))))) pss_nil)
      (pss_one (ps_ret (pe_ixX (P := P) (w := w) hu9 (pv 2) (pv 3) (fun _ _ => rfl))))))), ?_⟩
  obtain ⟨xs, hr1, hxs⟩ := hL
  obtain ⟨hln, hnd, hfew⟩ := hP.sub
  have hxl := hxs.length
  have hne := hP.ne
  refine ⟨_, rfl, r, xs, rfl, .inl (SqL.of hr1), rfl, _, rfl, ?_⟩
  have ev : decide (V.int (xs.length : Nat) = V.int 1) = decide (rows.length = 1) := by
    rw [hxl, Bool.eq_iff_iff, decide_eq_true_iff, decide_eq_true_iff]
    exact ⟨fun h => by have := V.int.inj h; omega, fun h => by rw [h]; rfl⟩
  rw [ev]
  cases h1 : decide (rows.length = 1) with
  | true =>
    have h1 := of_decide_eq_true h1
    obtain ⟨l, hl⟩ : ∃ l, rows = [l] := List.length_eq_one_iff.mp h1
    subst hl
    obtain ⟨x, hx1, hx2⟩ := paired_at (i := 0) (d := l) hxs rfl
    refine iteT ⟨_, rfl, r, xs, 0, x, rfl, rfl, SqL.of hr1, atI_nat (j := 0) hx1, by show 2 ≤ sizeLine; decide, fun t ht => ?_⟩
    have e1 := Ex.new (o := .tup [.int 0, x]) ht
    refine hQ _ _ (ExM.of e1) (hM.ex tst_Good e1) (hT.ext e1) ⟨t, x, rfl, ?_⟩
    rw [upd_same, cost_eq (by omega), if_pos h1]
  | false =>
    have h1 := of_decide_eq_false h1
    have h2 : 2 ≤ rows.length := by omega
    refine iteF ⟨_, rfl, .inl ⟨r, xs, rfl, SqL.of hr1, fun q hq => ?_⟩⟩
    have e1 : Ex H (upd H q (.tup xs)) := Ex.new hq
    have hKq : KeyAt (upd H q (.tup xs)) (nkR rows) q := .inr ⟨rows, xs, rfl, upd_same, hxs.mono tst_B.sst e1⟩
    have hM1 := hM.ex tst_Good e1
    have hT1 := hT.ext e1
    generalize upd H q (.tup xs) = H1 at e1 hKq hM1 hT1
    -- the end: the memo is asked
    have last : ∀ H2 es, ExM d H1 H2 → H2 d = some (DKO P w d es) → KsAt H2 es → (es.map (·.1)).Nodup → (∀ x ∈ es, ∃ r ∈ parts0 n rows0, x.1 = nkR r ∧ GoodV H2 x.2.2 (cost n r)) → Tabs [(Pt, lamQ)] H2 → hasX es (nkR rows) = true → rIxX P w (.ref d) (.ref q) H2 Q := fun H2 es e2 hd2 hks2 hnd2 hg2 hT2 hx2 => by
      obtain ⟨v, hv, gv⟩ := memo_at (S := parts0 n rows0) (Gd := GoodV) (val := cost n) hx2 hg2
      obtain ⟨es0, hd0, _⟩ := id hM1
      exact ⟨d, q, nkR rows, es, v, rfl, rfl, hKq.mono (e2.tex hd0), hd2, hks2, hv, hQ v H2 ((ExM.of e1).trans e2) ⟨es, hd2, hks2, hnd2, hg2⟩ hT2 gv⟩
    obtain ⟨es, hd1, hks1, hnd1, hg1⟩ := id hM1
    refine ⟨_, rfl, _, rfl, d, q, nkR rows, es, rfl, rfl, hKq, hd1, hks1, _, rfl, ?_⟩
    cases hx : hasX es (nkR rows) with
    | true => exact iteF ⟨_, rfl, _, rfl, last H1 es (ExM.refl d H1) hd1 hks1 hnd1 hg1 hT1 hx⟩
    | false =>
      refine iteT ?_
      refine ⟨by show 0 ≤ sizeLine; decide, fun fa hfa => ?_⟩
      have ef : Ex H1 (upd H1 fa (.lst [])) := Ex.new hfa
      have hpr1 : H1 pr = some (.lst ((List.replicate n 1).map V.int)) := e1 _ _ (ls_I hpr)
      have hr1' := e1 _ _ hr1
      have hrn : ((List.replicate n (1 : Int)).map V.int).length = n := by simp
      refine ⟨_, rfl, pr, _, rfl, SqL.of (ef _ _ hpr1), for_it (walk_enum (xs := (List.replicate n (1 : Int)).map V.int)) (fun i σ H' => ExM d H1 H' ∧ MemoAt P w (parts0 n rows0) GoodV (cost n) H' d ∧ Tabs [(Pt, lamQ)] H' ∧ (∃ x5 x6 x7 x8 x9 x10, σ = [some (.ref r), some (.ref pr), some (.ref d), some (.ref q), some (.ref fa), x5, x6, x7, x8, x9, x10]) ∧ Ls GoodV H' fa (splitsTo (fun a b => 1 + max (cost n a) (cost n b)) rows i)) ⟨ExM.of ef, hM1.ex tst_Good ef, hT1.ext ef, ⟨_, _, _, _, _, _, rfl⟩, [], upd_same, .nil⟩ (fun i σ H' _ h => SqL.of (h.1.lst hd1 hpr1)) (fun i x σ H' H2 hi h hy => ?_) (fun σ H2 h => ?_)⟩
      · rw [hrn] at hi
        obtain ⟨e, hM2, hT2, ⟨x5, x6, x7, x8, x9, x10, rfl⟩, ys, hfy, hys⟩ := h
        obtain ⟨T1, y1, y2, rfl, hTn, rfl, q1, q2⟩ := hy
        obtain rfl := Option.some.inj q1
        have ey2 : y2 = V.int 1 := by
          have q2 : (List.map V.int (List.replicate n 1))[i]? = some y2 := q2
          rw [List.getElem?_map, List.getElem?_replicate, if_pos hi] at q2
          exact (Option.some.inj q2).symm
        subst ey2
        have eT := Ex.new (o := .tup [.int (i : Nat), .int 1]) hTn
        refine ⟨T1, _, rfl, SqT.of upd_same, rfl, _, _, rfl, _, _, rfl, rfl, ?_⟩
        refine ⟨_, rfl, _, rfl, r, i, n, rows, rfl, ⟨xs, (e.trans (ExM.of eT)).lst hd1 hr1', (hxs.mono tst_B.sst e1).tmono tst_B ((e.trans (ExM.of eT)).tex hd1)⟩, hi, hln, hfew, fun t p1 p2 H3 e3 ht hp1 hp2 => ?_⟩
        have eA : ExM d H1 H3 := (e.trans (ExM.of eT)).trans (ExM.of e3)
        have hM3 := (hM2.ex tst_Good eT).ex tst_Good e3
        have hT3 := (hT2.ext eT).ext e3
        have hL3 : Ls GoodV H3 fa (splitsTo (fun a b => 1 + max (cost n a) (cost n b)) rows i) := Ls.mono tst_Good.sst (eT.trans e3) ⟨ys, hfy, hys⟩
        generalize H' = H0 at *
        refine ⟨t, _, rfl, SqT.of ht, rfl, _, _, rfl, _, _, rfl, rfl, ?_⟩
        refine ⟨_, rfl, by show 0 ≤ sizeLine; decide, fun b1 hb1 => ?_⟩
        have eb1 := Ex.new (o := .lst []) hb1
        refine ne_nil enc_B (hp1.mono tst_B.sst eb1) upd_same ⟨_, rfl, ?_⟩
        have skip : split i rows = false → ∀ H4, Ex H3 H4 → ExM d H1 H4 ∧ MemoAt P w (parts0 n rows0) GoodV (cost n) H4 d ∧ Tabs [(Pt, lamQ)] H4 ∧ Ls GoodV H4 fa (splitsTo (fun a b => 1 + max (cost n a) (cost n b)) rows (i + 1)) := fun hs H4 e4 => by
          refine ⟨eA.trans (ExM.of e4), hM3.ex tst_Good e4, hT3.ext e4, ?_⟩
          rw [splitsTo_succ, hs, if_neg (by decide), List.append_nil]
          exact hL3.mono tst_Good.sst e4
        cases hF : (halfF i rows).isEmpty with
        | true =>
          obtain ⟨k1, k2, k3, k4⟩ := skip (by unfold split; rw [hF]; rfl) _ eb1
          exact iteF (iteF ⟨k1, k2, k3, ⟨_, _, _, _, _, _, rfl⟩, k4⟩)
        | false =>
          refine iteT ⟨_, rfl, by show 0 ≤ sizeLine; decide, fun b2 hb2 => ?_⟩
          have eb2 := Ex.new (o := .lst []) hb2
          refine ne_nil enc_B (hp2.mono tst_B.sst (eb1.trans eb2)) upd_same ⟨_, rfl, ?_⟩
          cases hTr : (halfT i rows).isEmpty with
          | true =>
            obtain ⟨k1, k2, k3, k4⟩ := skip (by unfold split; rw [hTr]; exact Bool.and_false _) _ (eb1.trans eb2)
            exact iteF ⟨k1, k2, k3, ⟨_, _, _, _, _, _, rfl⟩, k4⟩
          | false =>
            refine iteT ?_
            have hs : split i rows = true := by unfold split; rw [hF, hTr]; rfl
            have e34 := eb1.trans eb2
            have eA4 := eA.trans (ExM.of e34)
            have hM4 := hM3.ex tst_Good e34
            have hT4 := hT3.ext e34
            have hL4 := hL3.mono tst_Good.sst e34
            have hp14 := hp1.mono tst_B.sst e34
            have hp24 := hp2.mono tst_B.sst e34
            generalize upd (upd H3 b1 (.lst [])) b2 (.lst []) = H4 at eA4 hM4 hT4 hL4 hp14 hp24
            cases m with
            | zero =>
              rw [hP.splits0 hi] at hs
              cases hs
            | succ m =>
              obtain ⟨hPF, hPT⟩ := hP.half hi hs
              have hpr4 : Ls IsI H4 pr (List.replicate n 1) := ls_of_ints (eA4.lst hd1 hpr1)
              refine ⟨_, rfl, _, rfl, _, rfl, p1, pr, d, _, rfl, hp14, hPF, hpr4, hM4, hT4, fun v1 H5 e5 hM5 hT5 g1 => ?_⟩
              obtain ⟨es4, hd4, _⟩ := id hM4
              refine ⟨_, rfl, _, rfl, _, rfl, p2, pr, d, _, rfl, ExM.ls tst_B hd4 e5 hp24, hPT, ExM.ls tst_I hd4 e5 hpr4, hM5, hT5, fun v2 H6 e6 hM6 hT6 g2 => ?_⟩
              obtain ⟨es5, hd5, _⟩ := id hM5
              have g1 := tst_Good _ _ _ _ (e6.tex hd5) g1
              have hL6 := ExM.ls tst_Good hd5 e6 (ExM.ls tst_Good hd4 e5 hL4)
              obtain ⟨c1, z1, rfl, hc1⟩ := g1
              obtain ⟨c2, z2, rfl, hc2⟩ := g2
              obtain ⟨ys6, hf6, hys6⟩ := hL6
              refine ⟨_, _, rfl, _, rfl, .inl ⟨rfl, _, SqL.of hf6⟩, ?_⟩
              refine ⟨_, rfl, _, rfl, c1, _, 0, .int (cost n (halfF i rows)), rfl, rfl, SqT.of hc1, rfl, _, rfl, c2, _, 0, .int (cost n (halfT i rows)), rfl, rfl, SqT.of hc2, rfl, _, _, rfl, _, _, rfl, rfl, ?_⟩
              refine ⟨_, rfl, _, rfl, c1, _, 1, z1, rfl, rfl, SqT.of hc1, rfl, _, rfl, c2, _, 1, z2, rfl, rfl, SqT.of hc2, rfl, by show 3 ≤ sizeLine; decide, fun u1 hu1 => ⟨by show 2 ≤ sizeLine; decide, fun u2 hu2 => ?_⟩⟩
              have eW : (1 : Int) + (if cost n (halfT i rows) > cost n (halfF i rows) then cost n (halfT i rows) else cost n (halfF i rows)) = 1 + max (cost n (halfF i rows)) (cost n (halfT i rows)) := by
                split <;> omega
              have e7 : Ex H6 (upd (upd H6 u1 (.tup [.int (i : Nat), z1, z2])) u2 (.tup [.int (1 + (if cost n (halfT i rows) > cost n (halfF i rows) then cost n (halfT i rows) else cost n (halfF i rows))), .ref u1])) := (Ex.new hu1).trans (Ex.new hu2)
              have g7 : GoodV (upd (upd H6 u1 (.tup [.int (i : Nat), z1, z2])) u2 (.tup [.int (1 + (if cost n (halfT i rows) > cost n (halfF i rows) then cost n (halfT i rows) else cost n (halfF i rows))), .ref u1])) (.ref u2) (1 + (if cost n (halfT i rows) > cost n (halfF i rows) then cost n (halfT i rows) else cost n (halfF i rows))) := ⟨u2, .ref u1, rfl, upd_same⟩
              have hM7 := hM6.ex tst_Good e7
              have hT7 := hT6.ext e7
              have hf7 := e7 _ _ hf6
              have hys7 := hys6.mono tst_Good.sst e7
              have eA7 : ExM d H1 _ := ((eA4.trans e5).trans e6).trans (ExM.of e7)
              refine ⟨fa, ys6, _, rfl, rfl, hf7, szl (by rw [hys6.length]; have := splitsTo_len (f := fun a b => 1 + max (cost n a) (cost n b)) (rows := rows) (i := i); have := hP.n5; omega), ?_⟩
              have t8 := TEx.lst (.lst (ys6 ++ [.ref u2])) hf7
              refine ⟨eA7.mut hfa, hM7.mono tst_Good t8 fun o ho => ?_, tabs_upd hT7 hf7 (fun _ z => nomatch z) (fun _ _ z => ?_), ⟨_, _, _, _, _, _, rfl⟩, _, upd_same, ?_⟩
              · obtain ⟨es7, hd7, _⟩ := id hM7
                rw [upd_ne (ne_of hd7 hf7 (by intro z; cases z))]
                exact ho
              · unfold CodeO at z
                cases z
              · rw [splitsTo_succ, hs, if_pos rfl]
                refine paired_app (hys7.tmono tst_Good t8) (.cons ?_ .nil)
                rw [← eW]
                exact tst_Good _ _ _ _ t8 g7
      · obtain ⟨e, hM2, hT2, ⟨x5, x6, x7, x8, x9, x10, rfl⟩, hLf⟩ := h
        rw [hrn] at hLf
        obtain ⟨ys, hfy, hys⟩ := hLf
        have hov : splitsTo (fun a b => 1 + max (cost n a) (cost n b)) rows n = overSplits n (fun a b => 1 + max (cost n a) (cost n b)) rows := rfl
        rw [hov] at hys
        have hpos : 0 < (overSplits n (fun a b => 1 + max (cost n a) (cost n b)) rows).length := by
          obtain ⟨i, hi, hs⟩ := splits h2 hnd hln
          exact List.length_pos_of_mem (List.mem_map.mpr ⟨i, List.mem_filter.mpr ⟨List.mem_range.mpr hi, hs⟩, rfl⟩)
        refine ⟨_, rfl, .ref fa, rfl, hT2, fun H3 eN hT3 => ?_⟩
        have eN3 : ExM d H2 H3 := ExM.ofN eN
        obtain ⟨es2, hd2, hks2, hnd2, hg2⟩ := id hM2
        have hd3 : H3 d = some (DKO P w d es2) := eN _ _ hd2 fun _ z => nomatch z
        have hys3 : All IsHd H3 ys (overSplits n (fun a b => 1 + max (cost n a) (cost n b)) rows) := Paired.mapP (hys.tmono tst_Good (eN3.tex hd2)) fun _ _ g => by
          obtain ⟨b, y, h1, h2⟩ := g
          exact ⟨b, [y], h1, h2⟩
        refine ⟨fa, ys, _, rfl, SqL.of (eN _ _ hfy fun _ z => nomatch z), hys3, hpos, fun j x kk hx hk hmin => ?_⟩
        have hmn := minL_is (List.mem_of_getElem? hk) hmin
        have hcost : cost n rows = kk := by rw [cost_eq (by omega), if_neg h1, hmn]
        obtain ⟨kk', hk', hgx⟩ := paired_of (hys.tmono tst_Good (eN3.tex hd2)) hx
        obtain rfl := Option.some.inj (hk'.symm.trans hk)
        have e3 := e.trans eN3
        have hks3 := hks2.mono (eN3.tex hd2)
        have hKq3 := hKq.mono (e3.tex hd1)
        have hlen2 := MemoAt.len hM2 hd2 (parts0_len hP.n5 rows0) hnd2 fun x hx => by
          obtain ⟨r, a, b, _⟩ := hg2 x hx
          exact ⟨r, a, b⟩
        have hg3 : ∀ x ∈ es2, ∃ r ∈ parts0 n rows0, x.1 = nkR r ∧ GoodV H3 x.2.2 (cost n r) := fun x hx => by
          obtain ⟨r, a, b, c⟩ := hg2 x hx
          exact ⟨r, a, b, tst_Good _ _ _ _ (eN3.tex hd2) c⟩
        refine ⟨_, rfl, _, rfl, d, q, nkR rows, es2, rfl, rfl, hKq3, hd3, hks3, szl (by omega), ?_⟩
        have t4 := TEx.dko (P := P) (w := w) (DKO P w d (putX es2 (nkR rows) q x)) hd3
        have e4 : ExM d H3 (upd H3 d (DKO P w d (putX es2 (nkR rows) q x))) := ExM.put
        refine ⟨_, rfl, _, rfl, last _ (putX es2 (nkR rows) q x) (e3.trans e4) upd_same ((hks3.put hKq3).mono t4) (nodup_put _ _ _ hnd2) ?_ (tabs_upd hT3 hd3 (fun _ z => nomatch z) fun _ _ z => ?_) (hasX_put _ _ _ _)⟩
        · intro y hy
          obtain ⟨r, a, b, c⟩ := good_put (Gd := GoodV) (val := cost n) hP.mem (by rw [hcost]; exact hgx) hg3 y hy
          exact ⟨r, a, b, tst_Good _ _ _ _ t4 c⟩
        · exact dko_ne_code _ _ z
end
end K49

namespace K49
open PySem PySem.Spec PyProof.Rows L2
open C8 (Cal Met Mak pe_c pe_mk pe_mt pe_mt0 pe_gc)
open Evl (Ex)
open LamX (Tabs TabB CodeO ExtN)
theorem twice_nodup : ∀ {L : List (List Bool)}, L.Nodup → (L.flatMap fun l => [l ++ [false], l ++ [true]]).Nodup
  | [], _ => List.nodup_nil
  | a :: L, h => by
    rw [List.nodup_cons] at h
    rw [List.flatMap_cons, List.nodup_append]
    refine ⟨by simp, twice_nodup h.2, fun x hx y hy e => ?_⟩
    subst e
    obtain ⟨l, hl, hm⟩ := List.mem_flatMap.mp hy
    have key : ∃ b c : Bool, a ++ [b] = l ++ [c] := by
      simp only [List.mem_cons, List.not_mem_nil, or_false] at hx hm
      rcases hx with rfl | rfl <;> rcases hm with e | e <;> exact ⟨_, _, e⟩
    obtain ⟨b, c, e⟩ := key
    have e2 := (List.append_inj' e rfl).1
    subst e2
    exact h.1 hl
theorem labs_nodup (f : List Bool → Bool) : ∀ n, (labs f n).Nodup
  | 0 => by simp [labs]
  | n + 1 => by
    have h := labs_nodup f n
    have hl := labs_at f n
    refine List.Nodup.sublist List.filter_sublist ?_
    exact twice_nodup h
/-- all stays but the dict at d -/
def ExD (d : Addr) (H H' : Hp) : Prop := ∀ b o, H b = some o → b ≠ d → H' b = some o
theorem ExD.refl (d : Addr) (H : Hp) : ExD d H H := fun _ _ h _ => h
theorem ExD.trans {d : Addr} {H H1 H2 : Hp} (a : ExD d H H1) (b : ExD d H1 H2) : ExD d H H2 := fun c o h m => b c o (a c o h m) m
theorem ExD.of {d : Addr} {H H' : Hp} (e : Ex H H') : ExD d H H' := fun b o h _ => e b o h
theorem ExD.put {d : Addr} {H : Hp} {o : HO} : ExD d H (upd H d o) := fun b u h n => by
  rw [upd_ne n]
  exact h
theorem ExD.m {d : Addr} {H H' : Hp} (e : ExD d H H') : ExM d H H' := fun b o h _ n => e b o h n
theorem ExD.mut {d p : Addr} {H H' : Hp} {o : HO} (e : ExD d H H') (h : H p = none) : ExD d H (upd H' p o) := fun b u q m => by
  rw [upd_ne (ne_of_none q h)]
  exact e b u q m
def spDepth (P : Program) (w : World) (n : Nat) (rows0 : List (List Bool)) : Nat → Sp
  | 0 => fun _ _ _ _ => False
  | m + 1 => fun vs H Q _ => ∃ (r d : Addr) (rows : List (List Bool)), vs = [.ref r, .ref d] ∧ Ls IsB H r rows ∧ PartIs n m rows0 rows ∧ MemoAt P w (parts0 n rows0) IsI (dep n) H d ∧
    ∀ H', ExD d H H' → MemoAt P w (parts0 n rows0) IsI (dep n) H' d → Q (.int (dep n rows)) H'
def spMistakes (c : Cls5) (Ask Fits : Kd → Rows → Prop) : Sp := fun vs H Q _ => ∃ (k a : Addr) (κ : Kd) (ps : List (List Int)), vs = [.ref k, .ref a] ∧ KindAt c H k κ ∧ 1 ≤ κ.places ∧ κ.places ≤ 3 ∧ Ls IsP H a ps ∧ Pts κ.places ps ∧ ps.length ≤ 5 ∧ (∀ ls : List Bool, Ask κ (ps.zip ls)) ∧
  labsOf Fits κ ps ≠ [] ∧ RV (.int (dep ps.length (labsOf Fits κ ps))) H Q
def spAsked (c : Cls5) (Ask Fits : Kd → Rows → Prop) (T : List (Addr × Str)) : Sp := fun vs H Q _ => ∃ (k a : Addr) (κ : Kd) (ps : List (List Int)), vs = [.ref k, .ref a, .non] ∧ KindAt c H k κ ∧ 1 ≤ κ.places ∧ κ.places ≤ 3 ∧ Ls IsP H a ps ∧ Pts κ.places ps ∧ ps.length ≤ 5 ∧ (∀ ls : List Bool, Ask κ (ps.zip ls)) ∧
  labsOf Fits κ ps ≠ [] ∧ Tabs T H ∧ ∀ v H', ExtN H H' → Tabs T H' → GoodV H' v (cost ps.length (labsOf Fits κ ps)) → Q v H'
def spAsks (c : Cls5) (Ask Fits : Kd → Rows → Prop) (T : List (Addr × Str)) : Sp := fun vs H Q _ => ∃ (k a : Addr) (κ : Kd) (ps : List (List Int)), vs = [.ref k, .ref a, .non] ∧ KindAt c H k κ ∧ 1 ≤ κ.places ∧ κ.places ≤ 3 ∧ Ls IsP H a ps ∧ Pts κ.places ps ∧ ps.length ≤ 5 ∧ (∀ ls : List Bool, Ask κ (ps.zip ls)) ∧
  labsOf Fits κ ps ≠ [] ∧ Tabs T H ∧ ∀ H', ExtN H H' → Tabs T H' → Q (.int (cost ps.length (labsOf Fits κ ps))) H'
section
variable {P : Program} {w : World} {K : PySem.W.Frag} {mg : Str → Option Value} {base : Heap}
theorem cal_cheapest_all (T : Txt mg) {c Pt : Addr} (TB : TabB base mg c Pt) (D : DfnC K mg "cheapest" s_cheapest ["rows", "prices", "known"] [] c) (C_halved : Cal P w K mg base 1 "halved" spHalved []) (n : Nat) (rows0 : List (List Bool)) : ∀ m, Cal P w K mg base (m + 1) "cheapest" (spCheapest P w [(Pt, lamQ)] n rows0 m) []
  | 0 => D.none
  | m + 1 => cal_cheapest TB (by omega) (cal_cheapest_all T TB D C_halved n rows0 m) C_halved T D
theorem sc_asked : FnScope ["kind", "points", "prices", "rows"] ["kind", "points", "prices"] (defScope s_asked) := C8.fnScope_by (by decide +kernel)
theorem cal_asked (T : Txt mg) (D : Dfn K mg "asked" s_asked ["kind", "points", "prices"] [])
    {Pt : Addr} {c5 : Cls5} {Ask Fits : Kd → Rows → Prop} (C_labelings : Cal P w K mg base 9 "labelings" (spLabelings c5 Ask Fits) [])
    (C_checked_prices : Cal P w K mg base 1 "checked_prices" spPrices [])
    (CC : ∀ n rows0, Cal P w K mg base 7 "cheapest" (spCheapest P w [(Pt, lamQ)] n rows0 6) []) : Cal P w K mg base (10) "asked" (spAsked c5 Ask Fits [(Pt, lamQ)]) [] := by
  have nd := sc_asked.nd
  refine D.cal sc_asked (fun vs H Q E h => by obtain ⟨k, a, κ, ps, rfl, hk, k1', k3, hL, hp, h5, hask, hne, hT, hQ⟩ := h; rfl) (fun f cdv A outer s H vs Q E hr h => ?_)
  obtain ⟨k, a, κ, ps, rfl, hk, k1', k3, hL, hp, h5, hask, hne, hT, hQ⟩ := h
  have C_cheapest := CC ps.length (labsOf Fits κ ps)
  refine ⟨_, (pss_cons (ps_set (i := 3) nd rfl (Or.inl rfl) (pe_c C_labelings hr (by decide) rfl (pa_cons (pv 0) (pa_cons (pv 1) pa_nil))))
      (pss_one (ps_ret (pe_c C_cheapest hr (by decide) rfl (pa_cons (pv 3) (pa_cons (pe_c C_checked_prices hr (by decide) rfl (pa_cons (pv 1) (pa_cons (pv 2) pa_nil))) (pa_cons (pe_dnewX (P := P) (w := w)) pa_nil))))))), ?_⟩
  refine ⟨_, rfl, _, rfl, k, a, κ, ps, rfl, hk, k1', k3, hL, hp, by omega, hask, fun r H1 hr1 e1 hLr => ?_⟩
  refine ⟨_, rfl, _, rfl, _, rfl, a, ps, rfl, hL.mono tst_P.sst e1, hp.few, fun pr H2 hpr e2 hLp => fun d hd => ?_⟩
  have e3 : Ex H2 (upd H2 d (DKO P w d [])) := Ex.new hd
  have hrep : (ps.map fun _ => (1 : Int)) = List.replicate ps.length 1 := by
    rw [List.map_const']
  rw [hrep] at hLp
  have e13 := (e1.trans e2).trans e3
  refine ⟨r, pr, d, labsOf Fits κ ps, rfl, hLr.mono tst_B.sst (e2.trans e3), ⟨h5, labs_nodup _ _, fun l hl => labs_at _ _ l hl, Nat.le_trans (labs_small h5) (by decide), List.length_pos_iff.mpr hne, List.replicate ps.length none, by simp, by simpa using h5, ?_⟩, hLp.mono tst_I.sst e3, ⟨[], upd_same, (fun _ h => nomatch h), List.nodup_nil, fun _ h => nomatch h⟩, hT.ext e13, fun v H3 e4 hM hT3 g => hQ v H3 (fun b o ho n => ?_) hT3 g⟩
  · unfold partOf
    rw [List.filter_eq_self.mpr]
    intro l _
    rw [fits_iff]
    intro i b hi
    rw [List.getElem?_replicate] at hi
    split at hi <;> cases hi
  · have h2 := (e1.trans e2) b o ho
    exact e4 b o (e3 b o h2) n (ne_of_none h2 hd)
theorem sc_asks : FnScope ["kind", "points", "prices"] ["kind", "points", "prices"] (defScope s_asks) := C8.fnScope_by (by decide +kernel)
theorem cal_asks (T : Txt mg) (D : Dfn K mg "asks" s_asks ["kind", "points", "prices"] [.non])
    {Pt : Addr} {c5 : Cls5} {Ask Fits : Kd → Rows → Prop} (C_asked : Cal P w K mg base 10 "asked" (spAsked c5 Ask Fits [(Pt, lamQ)]) []) : Cal P w K mg base (11) "asks" (spAsks c5 Ask Fits [(Pt, lamQ)]) [.non] := by
  have nd := sc_asks.nd
  refine D.cal sc_asks (fun vs H Q E h => by obtain ⟨k, a, κ, ps, rfl, hk, k1', k3, hL, hp, h5, hask, hne, hT, hQ⟩ := h; rfl) (fun f cdv A outer s H vs Q E hr h => ?_)
  obtain ⟨k, a, κ, ps, rfl, hk, k1', k3, hL, hp, h5, hask, hne, hT, hQ⟩ := h
  refine ⟨_, (pss_one (ps_ret (pe_ix (kix_tup K) (pe_c C_asked hr (by decide) rfl (pa_cons (pv 0) (pa_cons (pv 1) (pa_cons (pv 2) pa_nil)))) pe_int (fun _ _ => rfl)))), ?_⟩
  refine ⟨_, rfl, _, rfl, _, rfl, k, a, κ, ps, rfl, hk, k1', k3, hL, hp, h5, hask, hne, hT, fun v H1 e1 hT1 g => ?_⟩
  obtain ⟨b, y, rfl, hb⟩ := g
  exact ⟨b, _, 0, _, rfl, rfl, SqT.of hb, rfl, hQ H1 e1 hT1⟩
theorem sc_depth_of : FnScope ["rows", "known", "key", "found", "index", "noes", "yeses"] ["rows", "known"] (defScope s_depth_of) := C8.fnScope_by (by decide +kernel)
theorem cal_depth_of (T : Txt mg) (D : Dfn K mg "depth_of" s_depth_of ["rows", "known"] [])
    {n m k : Nat} {rows0 : List (List Bool)} (hk : 1 ≤ k)
    (C_depth_of : Cal P w K mg base k "depth_of" (spDepth P w n rows0 m) [])
    (C_halved : Cal P w K mg base 1 "halved" spHalved []) : Cal P w K mg base (k + 1) "depth_of" (spDepth P w n rows0 (m + 1)) [] := by
  have nd := sc_depth_of.nd
  refine D.cal sc_depth_of (fun vs H Q E h => by obtain ⟨r, d, rows, rfl, hL, hP, hM, hQ⟩ := h; rfl) (fun f cdv A outer s H vs Q E hr h => ?_)
  obtain ⟨r, d, rows, rfl, hL, hP, hM, hQ⟩ := h
  have hu9 := room9 hr
  have hu64 := room64 hr
  refine ⟨_, (pss_cons (ps_set (i := 2) nd rfl (Or.inl rfl) (kpe_tupleOf K rfl T.b_tuple (pv 0)))
      (pss_cons (ps_if (pt_cmpR (op_notInX (P := P) (w := w) hu9) (pv 2) (pv 1) (by with_unfolding_all rfl)) (pss_cons (ps_set (i := 3) nd rfl (Or.inl rfl) (pe_lst (pa_cons pe_int pa_nil)))
      (pss_cons (ps_for PassesOwn.never rfl (pi_range1 rfl T.b_range (pa_cons (pe_callB (klen K) rfl T.b_len PySem.boot_len (pa_cons (pe_ix (kix_list K) (pv 0) pe_int (fun _ _ => rfl)) pa_nil)) pa_nil)) (pg_name (i := 4) nd rfl (Or.inl rfl)) (pss_cons (ps_asg (pe_c C_halved hr (by omega) rfl (pa_cons (pv 0) (pa_cons (pv 4) pa_nil))) (kpg_tup K 2 rfl (pgs_cons (pg_name (i := 5) nd rfl (Or.inl rfl)) (pgs_cons (pg_name (i := 6) nd rfl (Or.inl rfl)) pgs_nil))))
      (pss_one (ps_if (PW.pt (pw_and (pt_cmpR (kneD K hu64) (pv 5) (pe_lst pa_nil) (nomark _)) (pw_and1 (pt_cmpR (kneD K hu64) (pv 6) (pe_lst pa_nil) (nomark _))))) (pss_one (ps_expr (kpe_bm K PySem.F.plainAttrs_list PySem.F.slot_list_append PySem.F.type_list_append mt_append (pv 3) (pa_cons (pe_op op_add pe_int (pe_callB (call_min2 rfl) rfl T.b_min (by decide +kernel) (pa_cons (pe_c C_depth_of hr (by omega) rfl (pa_cons (pv 5) (pa_cons (pv 1) pa_nil))) (pa_cons (pe_c C_depth_of hr (by omega) rfl (pa_cons (pv 6) (pa_cons (pv 1) pa_nil))) pa_nil)))) pa_nil)))) pss_nil))))
      (pss_one (ps_asg (pe_callB (kmax K rfl) rfl T.b_max (by decide +kernel) (pa_cons (pv 3) pa_nil)) (pg_sub (pv 1) (pv 2) (set_X (P := P) (w := w) hu9)))))) pss_nil)
      (pss_one (ps_ret (pe_ixX (P := P) (w := w) hu9 (pv 1) (pv 2) (fun _ _ => rfl)))))), ?_⟩
  obtain ⟨xs, hr1, hxs⟩ := hL
  obtain ⟨hln, hnd, hfew⟩ := hP.sub
  have hxl := hxs.length
  have hne := hP.ne
  refine ⟨_, rfl, .inl ⟨r, xs, rfl, SqL.of hr1, fun q hq => ?_⟩⟩
  have e1 : Ex H (upd H q (.tup xs)) := Ex.new hq
  have hKq : KeyAt (upd H q (.tup xs)) (nkR rows) q := .inr ⟨rows, xs, rfl, upd_same, hxs.mono tst_B.sst e1⟩
  have hM1 := hM.ex tst_I e1
  generalize upd H q (.tup xs) = H1 at e1 hKq hM1
  have last : ∀ H2 es, ExD d H1 H2 → H2 d = some (DKO P w d es) → KsAt H2 es → (es.map (·.1)).Nodup → (∀ x ∈ es, ∃ r ∈ parts0 n rows0, x.1 = nkR r ∧ IsI H2 x.2.2 (dep n r)) → hasX es (nkR rows) = true → rIxX P w (.ref d) (.ref q) H2 Q := fun H2 es e2 hd2 hks2 hnd2 hg2 hx2 => by
    obtain ⟨v, hv, gv⟩ := memo_at (S := parts0 n rows0) (Gd := IsI) (val := dep n) hx2 hg2
    obtain ⟨es0, hd0, _⟩ := id hM1
    have gv : v = .int (dep n rows) := gv
    subst gv
    exact ⟨d, q, nkR rows, es, _, rfl, rfl, hKq.mono (e2.m.tex hd0), hd2, hks2, hv, hQ H2 ((ExD.of e1).trans e2) ⟨es, hd2, hks2, hnd2, hg2⟩⟩
  obtain ⟨es, hd1, hks1, hnd1, hg1⟩ := id hM1
  refine ⟨_, rfl, _, rfl, d, q, nkR rows, es, rfl, rfl, hKq, hd1, hks1, _, rfl, ?_⟩
  cases hx : hasX es (nkR rows) with
  | true => exact iteF ⟨_, rfl, _, rfl, last H1 es (ExD.refl d H1) hd1 hks1 hnd1 hg1 hx⟩
  | false =>
    refine iteT ⟨by show 1 ≤ sizeLine; decide, fun fa hfa => ?_⟩
    have ef : Ex H1 (upd H1 fa (.lst [.int 0])) := Ex.new hfa
    have hr1' := e1 _ _ hr1
    obtain ⟨l0, rest, hrows⟩ : ∃ l0 rest, rows = l0 :: rest := by
      cases rows with
      | nil => simp at hne
      | cons a b => exact ⟨a, b, rfl⟩
    have hl0 : l0.length = n := hln l0 (by rw [hrows]; exact List.mem_cons_self ..)
    obtain ⟨x0, hx0, b0, rfl, hb0⟩ := paired_at (i := 0) (d := l0) (hxs.mono tst_B.sst (e1.trans ef)) (by rw [hrows]; rfl)
    refine ⟨_, rfl, r, xs, 0, .ref b0, rfl, rfl, SqL.of (ef _ _ hr1'), atI_nat (j := 0) hx0, b0, _, rfl, .inr (SqT.of hb0), (n : Int), by rw [List.length_map, hl0], by have := hP.n5; omega, by have := hP.n5; omega, for_it walk_range (fun i σ H' => ExD d H1 H' ∧ MemoAt P w (parts0 n rows0) IsI (dep n) H' d ∧ (∃ x4 x5 x6, σ = [some (.ref r), some (.ref d), some (.ref q), some (.ref fa), x4, x5, x6]) ∧ Ls IsI H' fa (0 :: splitsTo (fun a b => 1 + min (dep n a) (dep n b)) rows i)) ⟨ExD.of ef, hM1.ex tst_I ef, ⟨_, _, _, rfl⟩, [.int 0], upd_same, .cons rfl .nil⟩ (fun i σ H' _ h => trivial) (fun i x σ H9 H' hi h hy => ?_) (fun σ H2 h => ?_)⟩
    · have hi : i < n := by omega
      obtain ⟨e, hM2, ⟨x4, x5, x6, rfl⟩, hL2⟩ := h
      obtain ⟨rfl, rfl⟩ := hy
      have hB2 : All IsB H' xs rows := (hxs.mono tst_B.sst e1).tmono tst_B (e.m.tex hd1)
      refine ⟨_, rfl, _, rfl, r, i, n, rows, by show [V.ref r, V.int (0 + (i : Nat))] = _; rw [show (0 : Int) + (i : Nat) = i by omega], ⟨xs, e.m.lst hd1 hr1', hB2⟩, hi, hln, hfew, fun t p1 p2 H3 e3 ht hp1 hp2 => ?_⟩
      have eA : ExD d H1 H3 := e.trans (ExD.of e3)
      have hM3 := hM2.ex tst_I e3
      have hL3 := hL2.mono tst_I.sst e3
      refine ⟨t, _, rfl, SqT.of ht, rfl, _, _, rfl, _, _, rfl, rfl, ?_⟩
      refine ⟨_, rfl, by show 0 ≤ sizeLine; decide, fun b1 hb1 => ?_⟩
      have eb1 := Ex.new (o := .lst []) hb1
      refine ne_nil enc_B (hp1.mono tst_B.sst eb1) upd_same ⟨_, rfl, ?_⟩
      have skip : split i rows = false → ∀ H4, Ex H3 H4 → ExD d H1 H4 ∧ MemoAt P w (parts0 n rows0) IsI (dep n) H4 d ∧ Ls IsI H4 fa (0 :: splitsTo (fun a b => 1 + min (dep n a) (dep n b)) rows (i + 1)) := fun hs H4 e4 => by
        refine ⟨eA.trans (ExD.of e4), hM3.ex tst_I e4, ?_⟩
        rw [splitsTo_succ, hs, if_neg (by decide), List.append_nil]
        exact hL3.mono tst_I.sst e4
      cases hF : (halfF i rows).isEmpty with
      | true =>
        obtain ⟨k1, k2, k4⟩ := skip (by unfold split; rw [hF]; rfl) _ eb1
        exact iteF (iteF ⟨k1, k2, ⟨_, _, _, rfl⟩, k4⟩)
      | false =>
        refine iteT ⟨_, rfl, by show 0 ≤ sizeLine; decide, fun b2 hb2 => ?_⟩
        have eb2 := Ex.new (o := .lst []) hb2
        refine ne_nil enc_B (hp2.mono tst_B.sst (eb1.trans eb2)) upd_same ⟨_, rfl, ?_⟩
        cases hTr : (halfT i rows).isEmpty with
        | true =>
          obtain ⟨k1, k2, k4⟩ := skip (by unfold split; rw [hTr]; exact Bool.and_false _) _ (eb1.trans eb2)
          exact iteF ⟨k1, k2, ⟨_, _, _, rfl⟩, k4⟩
        | false =>
          refine iteT ?_
          have hs : split i rows = true := by unfold split; rw [hF, hTr]; rfl
          have e34 := eb1.trans eb2
          have eA4 := eA.trans (ExD.of e34)
          have hM4 := hM3.ex tst_I e34
          have hL4 := hL3.mono tst_I.sst e34
          have hp14 := hp1.mono tst_B.sst e34
          have hp24 := hp2.mono tst_B.sst e34
          generalize upd (upd H3 b1 (.lst [])) b2 (.lst []) = H4 at eA4 hM4 hL4 hp14 hp24
          cases m with
          | zero =>
            rw [hP.splits0 hi] at hs
            cases hs
          | succ m =>
            obtain ⟨hPF, hPT⟩ := hP.half hi hs
            obtain ⟨ys4, hf4, hys4⟩ := id hL4
            refine ⟨_, rfl, .inl ⟨rfl, _, SqL.of hf4⟩, _, rfl, _, rfl, p1, d, _, rfl, hp14, hPF, hM4, fun H5 e5 hM5 => ?_⟩
            obtain ⟨es4, hd4, _⟩ := id hM4
            refine ⟨_, rfl, _, rfl, p2, d, _, rfl, ExM.ls tst_B hd4 e5.m hp24, hPT, hM5, fun H6 e6 hM6 => ?_⟩
            obtain ⟨es5, hd5, _⟩ := id hM5
            have hL6 := ExM.ls tst_I hd5 e6.m (ExM.ls tst_I hd4 e5.m hL4)
            obtain ⟨ys6, hf6, hys6⟩ := hL6
            refine ⟨_, _, rfl, _, _, rfl, rfl, ?_⟩
            have eA6 : ExD d H1 H6 := (eA4.trans e5).trans e6
            refine ⟨fa, ys6, _, rfl, rfl, hf6, szl (by rw [hys6.length, List.length_cons]; have := splitsTo_len (f := fun a b => 1 + min (dep n a) (dep n b)) (rows := rows) (i := i); have := hP.n5; omega), ?_⟩
            have t8 := TEx.lst (.lst (ys6 ++ [.int (1 + (if dep n (halfT i rows) < dep n (halfF i rows) then dep n (halfT i rows) else dep n (halfF i rows)))])) hf6
            refine ⟨eA6.mut hfa, hM6.mono tst_I t8 fun o ho => ?_, ⟨_, _, _, rfl⟩, _, upd_same, ?_⟩
            · obtain ⟨es7, hd7, _⟩ := id hM6
              rw [upd_ne (ne_of hd7 hf6 (by intro z; cases z))]
              exact ho
            · rw [splitsTo_succ, hs, if_pos rfl, ← List.cons_append]
              refine paired_app (hys6.tmono tst_I t8) (.cons ?_ .nil)
              show V.int _ = V.int _
              congr 1
              split <;> omega
    · obtain ⟨e, hM2, ⟨x4, x5, x6, rfl⟩, hLf⟩ := h
      rw [show ((n : Int)).toNat = n by omega] at hLf
      have hLi := ls_I hLf
      have hov : splitsTo (fun a b => 1 + min (dep n a) (dep n b)) rows n = overSplits n (fun a b => 1 + min (dep n a) (dep n b)) rows := rfl
      rw [hov] at hLi
      obtain ⟨es2, hd2, hks2, hnd2, hg2⟩ := id hM2
      refine ⟨_, rfl, fa, _, rfl, SqL.of hLi, by simp, fun mm h1 h2 => ?_⟩
      have hmm := maxL_is h1 h2
      have hdep : dep n rows = mm := by rw [dep_eq (by omega), hmm]
      have hKq3 := hKq.mono (e.m.tex hd1)
      have hlen2 := MemoAt.len hM2 hd2 (parts0_len hP.n5 rows0) hnd2 fun x hx => by
        obtain ⟨r, a, b, _⟩ := hg2 x hx
        exact ⟨r, a, b⟩
      refine ⟨_, rfl, _, rfl, d, q, nkR rows, es2, rfl, rfl, hKq3, hd2, hks2, szl (by omega), ?_⟩
      have t4 := TEx.dko (P := P) (w := w) (DKO P w d (putX es2 (nkR rows) q (.int mm))) hd2
      have e4 : ExD d H2 (upd H2 d (DKO P w d (putX es2 (nkR rows) q (.int mm)))) := ExD.put
      refine ⟨_, rfl, _, rfl, last _ (putX es2 (nkR rows) q (.int mm)) (e.trans e4) upd_same ((hks2.put hKq3).mono t4) (nodup_put _ _ _ hnd2) ?_ (hasX_put _ _ _ _)⟩
      intro y hy
      obtain ⟨r, a, b, c⟩ := good_put (Gd := IsI) (val := dep n) hP.mem (by rw [hdep]; exact rfl) hg2 y hy
      exact ⟨r, a, b, c⟩
theorem cal_depth_all (T : Txt mg) (D : Dfn K mg "depth_of" s_depth_of ["rows", "known"] []) (C_halved : Cal P w K mg base 1 "halved" spHalved []) (n : Nat) (rows0 : List (List Bool)) : ∀ m, Cal P w K mg base (m + 1) "depth_of" (spDepth P w n rows0 m) []
  | 0 => D.none
  | m + 1 => cal_depth_of T D (by omega) (cal_depth_all T D C_halved n rows0 m) C_halved
theorem sc_mistakes : FnScope ["kind", "points"] ["kind", "points"] (defScope s_mistakes) := C8.fnScope_by (by decide +kernel)
theorem cal_mistakes (T : Txt mg) (D : Dfn K mg "mistakes" s_mistakes ["kind", "points"] [])
    {c5 : Cls5} {Ask Fits : Kd → Rows → Prop} (C_labelings : Cal P w K mg base 9 "labelings" (spLabelings c5 Ask Fits) [])
    (CC : ∀ n rows0, Cal P w K mg base 7 "depth_of" (spDepth P w n rows0 6) []) : Cal P w K mg base (10) "mistakes" (spMistakes c5 Ask Fits) [] := by
  have nd := sc_mistakes.nd
  refine D.cal sc_mistakes (fun vs H Q E h => by obtain ⟨k, a, κ, ps, rfl, hk, k1', k3, hL, hp, h5, hask, hne, hQ⟩ := h; rfl) (fun f cdv A outer s H vs Q E hr h => ?_)
  obtain ⟨k, a, κ, ps, rfl, hk, k1', k3, hL, hp, h5, hask, hne, hQ⟩ := h
  have C_depth_of := CC ps.length (labsOf Fits κ ps)
  refine ⟨_, (pss_one (ps_ret (pe_c C_depth_of hr (by decide) rfl (pa_cons (pe_c C_labelings hr (by decide) rfl (pa_cons (pv 0) (pa_cons (pv 1) pa_nil))) (pa_cons (pe_dnewX (P := P) (w := w)) pa_nil))))), ?_⟩
  refine ⟨_, rfl, _, rfl, k, a, κ, ps, rfl, hk, k1', k3, hL, hp, by omega, hask, fun r H1 hr1 e1 hLr => fun d hd => ?_⟩
  have e3 : Ex H1 (upd H1 d (DKO P w d [])) := Ex.new hd
  refine ⟨r, d, labsOf Fits κ ps, rfl, hLr.mono tst_B.sst e3, ⟨h5, labs_nodup _ _, fun l hl => labs_at _ _ l hl, Nat.le_trans (labs_small h5) (by decide), List.length_pos_iff.mpr hne, List.replicate ps.length none, by simp, by simpa using h5, ?_⟩, ⟨[], upd_same, (fun _ h => nomatch h), List.nodup_nil, fun _ h => nomatch h⟩, fun H3 e4 hM => hQ H3 fun b o ho => ?_⟩
  · unfold partOf
    rw [List.filter_eq_self.mpr]
    intro l _
    rw [fits_iff]
    intro i b hi
    rw [List.getElem?_replicate] at hi
    split at hi <;> cases hi
  · have h2 := e1 b o ho
    exact e4 b o (e3 b o h2) (ne_of_none h2 hd)
end
end K49

namespace K49
open PySem PySem.Spec PyProof.Rows L2
open Evl (Ex)
def ItzTL (K : PySem.W.Frag) (a b : Addr) : It :=
  ⟨fun i H => ∃ (xs ys : List V) (x y : V), SqT K H a xs ∧ SqL K H b ys ∧ xs[i]? = some x ∧ ys[i]? = some y,
    fun i H v H' => ∃ T x y, v = .ref T ∧ H T = none ∧ H' = upd H T (.tup [x, y]) ∧ (∀ xs, SqT K H a xs → xs[i]? = some x) ∧ ∀ ys, SqL K H b ys → ys[i]? = some y,
    fun i H => ∃ xs ys : List V, SqT K H a xs ∧ SqL K H b ys ∧ (xs.length = i ∧ i ≤ ys.length ∨ ys.length = i ∧ i ≤ xs.length)⟩
theorem turn_zipTL {P : Program} {w : World} {K : PySem.W.Frag} {elts : List Expr} {kk : Nat} {tpos : Pos} {a b z TI TO i1 i2 : Addr} (S : ZipSep2 z TI TO i1 i2 [i1, a] [i2, b]) :
    Turn P w K (.Tuple elts kk tpos) (ItzTL K a b) [z, TI, TO, i1, i2] z (fun i h => IsZip h z TI TO .none ∧ IsTupOf2 h TI (.ref i1) (.ref i2) ∧ (∃ x y, IsTupOf2 h TO x y) ∧ h.IsTupleIter i1 a i ∧ h.IsListIter i2 b i) where
  mem := by simp
  obj := fun i h st c hc => by
    obtain ⟨hz, hTI, ⟨x, y, hTO⟩, ⟨o1, e1, _, d1⟩, ⟨o2, e2, _, d2⟩⟩ := st
    have e' : c = z ∨ c = TI ∨ c = TO ∨ c = i1 ∨ c = i2 := by simpa using hc
    rcases e' with q | q | q | q | q
    · rw [q]; exact ⟨_, hz, fun v q => nomatch q⟩
    · rw [q]; exact ⟨_, hTI, fun v q => nomatch q⟩
    · rw [q]; exact ⟨_, hTO, fun v q => nomatch q⟩
    · rw [q]; exact ⟨o1, e1, fun v q => by rw [d1] at q; cases q⟩
    · rw [q]; exact ⟨o2, e2, fun v q => by rw [d2] at q; cases q⟩
  keep := fun i h h' st k => by
    obtain ⟨hz, hTI, ⟨x, y, hTO⟩, h1, h2⟩ := st
    exact ⟨k z (by simp) _ hz, k TI (by simp) _ hTI, ⟨x, y, k TO (by simp) _ hTO⟩, h1.at fun o q => k i1 (by simp) o q, h2.at fun o q => k i2 (by simp) o q⟩
  item := by
    intro X hP hw hK hc i pins s σ H E I hf st hg
    subst hP hw hK
    obtain ⟨hz, hTI, ⟨x0, y0, hTO⟩, h1, h2⟩ := st
    obtain ⟨xs, ys, x, y, hqx, hqy, hx, hy⟩ := hg
    obtain ⟨its, rv, p, _⟩ := I.tuple hqx
    obtain ⟨its2, rv2, p2, _⟩ := I.list hqy
    obtain ⟨u, hu, ru⟩ := rv.get hx
    obtain ⟨u2, hu2, ru2⟩ := rv2.get hy
    have hzl : z < s.heap.objs.size := Heap.lt_size hz
    have hh := I.ok.hd hc
    have na : a ≠ i1 := fun e => by
      obtain ⟨o, e1, _, e2⟩ := h1
      obtain ⟨o', e3, _, n, e4⟩ := p
      rw [e, e1] at e3
      cases e3
      rw [e2] at e4
      cases e4
    have nb : b ≠ i2 := fun e => by
      obtain ⟨o, e1, _, e2⟩ := h2
      obtain ⟨o', e3, _, n, e4⟩ := p2.isList
      rw [e, e1] at e3
      cases e3
      rw [e2] at e4
      cases e4
    have pT : s.heap.IsTuple a its.toArray := p
    have D1 := Draws.tuple (prog := X.prog) (w := X.w) (A := X.A.in1) hh i1 a na its.toArray
    have D2 := Draws.list (prog := X.prog) (w := X.w) (A := X.A.in1) hh i2 b nb its2.toArray
    have l1 : i < its.toArray.size := by simpa using (List.getElem?_eq_some_iff.mp hu).1
    have l2 : i < its2.toArray.size := by simpa using (List.getElem?_eq_some_iff.mp hu2).1
    refine wpAny_pyNext_zipD2_item S D1 D2 hz hTI hTO ⟨h1, pT⟩ ⟨h2, p2.isList⟩ l1 l2 fun x1 x2 h' tk y1 y2 z' TO' d1 d2 hT hsz hk => ?_
    have ey1 : u = x1 := Option.some.inj (hu.symm.trans (by simpa using y1))
    have ey2 : u2 = x2 := Option.some.inj (hu2.symm.trans (by simpa using y2))
    subst ey1 ey2
    have TIz : TI ≠ z := S.TIz
    refine ⟨_, rfl, wpAny_letOwnedTupleGo_zip (s := { s with heap := h', toks := tk }) z' fun h'' z'' sb => ?_⟩
    have hT2 : h''.get? s.heap.objs.size = some { cls := .type "tuple", data := .seq #[u, u2] } := (sb.2 _ (Nat.ne_of_gt hzl)).trans hT
    have new : ObjOk X.prog X.w (upd H s.heap.objs.size (.tup [x, y])) h'' s.heap.objs.size (.tup [x, y]) :=
      ⟨by show 2 ≤ sizeLine; decide, [u, u2], .cons ru (.cons ru2 .nil), ⟨_, hT2, rfl, _, rfl⟩⟩
    have I1 : Inv X pins σ (upd H s.heap.objs.size (.tup [x, y])) { s with heap := h'', toks := tk } :=
      I.turnedNew (t' := tk) (ch := [z, TI, TO, i1, i2]) (fun c o hb q => (sb.2 c (fun q' => hb (by simp [q']))).trans (hk c o (fun q' => hb (by simp [q'])) (fun q' => hb (by simp [q'])) (fun q' => hb (by simp [q'])) (fun q' => hb (by simp [q'])) q)) hf (Nat.le_refl _) new
    refine ⟨.ref s.heap.objs.size, _, I1, rfl, ⟨_, x, y, rfl, I.hok.fresh (Nat.le_refl _), rfl, fun l hl => by rw [I.tuple_inj hl hqx]; exact hx, fun l hl => by rw [I.list_inj hl hqy]; exact hy⟩, ⟨z'', ?_, ⟨u, u2, ?_⟩, ?_, ?_⟩, fun c hcm => ?_⟩
    · exact (sb.2 _ S.TIz).trans (hk _ _ S.TIz S.TITO S.TIi1 S.TIi2 hTI)
    · exact (sb.2 _ S.TOz).trans TO'
    · exact d1.1.at fun o q => (sb.2 _ S.zi1.symm).trans q
    · exact d2.1.at fun o q => (sb.2 _ S.zi2.symm).trans q
    · have hlt : c < s.heap.objs.size := by
        have e' : c = z ∨ c = TI ∨ c = TO ∨ c = i1 ∨ c = i2 := by simpa using hcm
        rcases e' with q | q | q | q | q
        · rw [q]; exact hzl
        · rw [q]; exact Heap.lt_size hTI
        · rw [q]; exact Heap.lt_size hTO
        · rw [q]; obtain ⟨_, e1, _⟩ := h1; exact Heap.lt_size e1
        · rw [q]; obtain ⟨_, e2, _⟩ := h2; exact Heap.lt_size e2
      rw [upd_ne (Nat.ne_of_lt hlt)]
      exact (hf c hcm).1
  done := by
    intro X hP hw hK hc i pins s σ H E I hf st hg
    subst hP hw hK
    obtain ⟨hz, hTI, ⟨x0, y0, hTO⟩, h1, h2⟩ := st
    obtain ⟨xs, ys, hqx, hqy, hend⟩ := hg
    obtain ⟨its, rv, p, _⟩ := I.tuple hqx
    obtain ⟨its2, rv2, p2, _⟩ := I.list hqy
    have l1 := rv.length
    have l2 := rv2.length
    have hh := I.ok.hd hc
    have na : a ≠ i1 := fun e => by
      obtain ⟨o, e1, _, e2⟩ := h1
      obtain ⟨o', e3, _, n, e4⟩ := p
      rw [e, e1] at e3
      cases e3
      rw [e2] at e4
      cases e4
    have nb : b ≠ i2 := fun e => by
      obtain ⟨o, e1, _, e2⟩ := h2
      obtain ⟨o', e3, _, n, e4⟩ := p2.isList
      rw [e, e1] at e3
      cases e3
      rw [e2] at e4
      cases e4
    have pT : s.heap.IsTuple a its.toArray := p
    have D1 := Draws.tuple (prog := X.prog) (w := X.w) (A := X.A.in1) hh i1 a na its.toArray
    have D2 := Draws.list (prog := X.prog) (w := X.w) (A := X.A.in1) hh i2 b nb its2.toArray
    have z1 : its.toArray.size = its.length := by simp
    have z2 : its2.toArray.size = its2.length := by simp
    exact wpAny_pyNext_zipD2_end S D1 D2 hz hTI hTO ⟨h1, pT⟩ ⟨h2, p2.isList⟩ (by omega) (by omega) (by omega) fun h' tk hk => ⟨rfl, I.turnedL (t' := tk) (ch := [z, TI, TO, i1, i2]) (fun c o hb q =>
      hk c o (fun q' => hb (by simp [q'])) (fun q' => hb (by simp [q'])) (fun q' => hb (by simp [q'])) (fun q' => hb (by simp [q'])) q) hf⟩
  self := fun A i s Q E st h => wpAny_pyIter_zip st.1 h
def iZipTL (K : PySem.W.Frag) (ta : TA) : TI := fun σ H R => ta σ H fun vs H1 => ∃ a b xs ys, vs = [.ref a, .ref b] ∧ SqT K H1 a xs ∧ SqL K H1 b ys ∧ R (ItzTL K a b) H1
theorem kpi_zipTL {X : Cx} (K : PySem.W.Frag) {e1 e2 : Expr} {ta : TA} {p pos tpos : Pos} {elts : List Expr} {kk : Nat} (hg : Gl X "zip") (hm : X.mg "zip" = none) (ha : PA X [e1, e2] ta)
    (hs : starEach [e1, e2] X.env = (false, eval e1 X.env) :: starEach [e2] X.env := by rfl) (hpl : (backTo pos (starEach [e2] X.env)).any (·.1) = false := by rfl) (e : X.K = K := by rfl) :
    PI X (.Tuple elts kk tpos) (.Call (.Name "zip" p) [e1, e2] [] pos) (iZipTL K ta) := by
  subst e
  refine ⟨fun pins s σ H R I h => ?_⟩
  refine Call_ (ld_blt I hg hm PyProof.Rows.boot_zip (PyProof.Rows.callWith_type1 (thn (ha.run pos pins s σ H _ I h) fun us s1 ⟨vs, H1, I1, r1, q1⟩ => ?_) hs hpl))
  obtain ⟨a, b, xs, ys, ex, hqx, hqy, q⟩ := q1
  subst ex
  cases r1 with
  | cons r rr =>
    cases rr with
    | cons r' rr =>
      cases rr
      cases r
      cases r'
      obtain ⟨its, rv, p1, _⟩ := I1.tuple hqx
      obtain ⟨its2, rv2, p2, _⟩ := I1.list hqy
      have pT : s1.heap.IsTuple a its.toArray := p1
      have hla : a < s1.heap.objs.size := by
        obtain ⟨o, ho, _⟩ := p1
        exact Heap.lt_size ho
      have hlb : b < s1.heap.objs.size := p2.lt
      refine zip_begins2 (begins_tuple a its.toArray) (begins_list b its2.toArray) pT p2.isList fun h' hz hTI hTO ho1 ho2 hsz hk => wpAny_pyIter_zip hz ?_
      have I2 : Inv X pins σ H1 { s1 with heap := h' } := I1.kept (t' := s1.toks) hk
      refine ⟨s1.heap.objs.size + 4, [s1.heap.objs.size + 4, s1.heap.objs.size + 2, s1.heap.objs.size + 3, s1.heap.objs.size, s1.heap.objs.size + 1], _, _, H1, rfl, I2, turn_zipTL (zsep s1.heap.objs.size a b hla hlb), ⟨hz, hTI, ⟨_, _, hTO⟩, ⟨_, ho1, rfl, rfl⟩, ⟨_, ho2, rfl, rfl⟩⟩, fun c hcm => ?_, q⟩
      have e' : c = s1.heap.objs.size + 4 ∨ c = s1.heap.objs.size + 2 ∨ c = s1.heap.objs.size + 3 ∨ c = s1.heap.objs.size ∨ c = s1.heap.objs.size + 1 := by simpa using hcm
      have hle : s1.heap.objs.size ≤ c := by
        rcases e' with z | z | z | z | z <;> rw [z] <;> first | exact Nat.le_refl _ | exact Nat.le_add_right _ _
      exact I1.fpOk hle (I1.hok.fresh hle)
theorem walk_zipTL {K : PySem.W.Frag} {a b : Addr} {xs ys : List V} {n : Nat} (hn : n = min xs.length ys.length) : Walk (ItzTL K a b) n (fun H => SqT K H a xs ∧ SqL K H b ys) (YPair (fun i => xs[i]?) (fun i => ys[i]?)) := by
  subst hn
  refine ⟨fun i _ hi q => ?_, fun _ q => ⟨xs, ys, q.1, q.2, by omega⟩, fun i H v H' _ q y => ?_⟩
  · have h1 : i < xs.length := by omega
    have h2 : i < ys.length := by omega
    exact ⟨xs, ys, xs[i], ys[i], q.1, q.2, by simp [h1], by simp [h2]⟩
  · obtain ⟨T, x, z, h1, h2, h3, h4, h5⟩ := y
    exact ⟨T, x, z, h1, h2, h3, h4 xs q.1, h5 ys q.2⟩
end K49

namespace K49
open PySem PySem.Spec PyProof.Rows L2
open Evl (Ex)
theorem tuple_mul1 (l : Addr) (items : Array Value) (n : Nat) (dd : Option Addr) (sl : Array (Option Value)) (u : Tok) :
    Meets (Builtin.«tuple.__mul__» ⟨[.ref l, .int 1 u], []⟩) (fun _ R s => s.heap.get? l = some { cls := .type "tuple", dict := dd, data := .seq items n, slots := sl } ∧ R (.ok (.ret (Value.ref l))) s) :=
  .of_wp fun prog w A R s h => by
    obtain ⟨hp, g, d, tk, os⟩ := s
    obtain ⟨hl, h⟩ := h
    have f1 := AutoSeq1.idx_int
    have c1 : (items.isEmpty || (1 : Int) == 1) = true := by simp
    wp_walk using wpAny_loadPart' hl
    repeat (first
      | (refine wpAny_ite_true (decide_eq_true c1) ?_; wp_walk using wpAny_loadPart' hl)
      | (refine wpAny_ite_true (decide_eq_true (by exact c1)) ?_; wp_walk using wpAny_loadPart' hl))
    exact ⟨_, rfl, h⟩
theorem tuple_mul0 (l : Addr) (items : Array Value) (n : Nat) (dd : Option Addr) (sl : Array (Option Value)) (u : Tok) (hi : items.isEmpty = false) :
    Meets (Builtin.«tuple.__mul__» ⟨[.ref l, .int 0 u], []⟩) (fun _ R s => s.heap.get? l = some { cls := .type "tuple", dict := dd, data := .seq items n, slots := sl } ∧
      R (.ok (.ret (Value.ref s.heap.objs.size))) { s with heap := s.heap.push { cls := Value.type "tuple", data := Data.seq #[] }, toks := s.toks }) :=
  .of_wp fun prog w A R s h => by
    obtain ⟨hp, g, d, tk, os⟩ := s
    obtain ⟨hl, h⟩ := h
    have f1 := AutoSeq1.idx_int
    have c1 : (items.isEmpty || (0 : Int) == 1) = false := by rw [hi]; rfl
    have c2 : (decide ((0 : Int) ≤ 0) || items.isEmpty) = true := by simp
    wp_walk using wpAny_loadPart' hl
    repeat (first
      | (refine wpAny_ite_false (decide_eq_false (by rw [c1]; exact Bool.false_ne_true)) ?_; wp_walk using wpAny_loadPart' hl)
      | (refine wpAny_ite_true (decide_eq_true c2) ?_; wp_walk using wpAny_loadPart' hl))
    exact ⟨_, rfl, h⟩
/-- (x, ..) * k for k from 0 on -/
def rRepA (K : PySem.W.Frag) : R2 := fun x y H Q => ∃ l k xs, x = .ref l ∧ y = .int k ∧ H l = some (.tup xs) ∧ xs ≠ [] ∧ 0 ≤ k ∧ k ≤ 1000 ∧ xs.length ≤ 1000 ∧ ∀ p H', Ex H H' → H' p = some (.tup (List.replicate k.toNat xs).flatten) → Q (.ref p) H'
theorem op_repA {X : Cx} (K : PySem.W.Frag) (eK : X.K = K := by rfl) : OpR X (binaryOp .Mult) (rRepA K) := by
  subst eK
  intro pins s σ H x y v u Q I rx ry h
  obtain ⟨l, k, xs, rfl, rfl, hT, hne, h1, h2, hz, q⟩ := h
  by_cases hk2 : 2 ≤ k
  · exact op_repT pins s σ H _ _ v u Q I rx ry ⟨l, k, xs, rfl, rfl, SqT.of hT, hne, hk2, h2, hz, fun p hp => q p _ (Ex.new hp) upd_same⟩
  cases rx
  obtain ⟨t, rfl⟩ := ry
  obtain ⟨its, r, ⟨⟨cls, dd, data, sl⟩, ho, hc, n, hd⟩, hs⟩ := I.tuple (SqT.of hT)
  simp only at hc hd
  subst hc hd
  have hle : its.length = xs.length := r.length.symm
  have hn : its ≠ [] := fun e => hne (by
    rw [e] at hle
    exact List.eq_nil_of_length_eq_zero hle.symm)
  have hi : its.toArray.isEmpty = false := by
    cases its with
    | nil => exact absurd rfl hn
    | cons a b => rfl
  by_cases hk : k = 1
  · subst hk
    refine wpAny_binaryOp_repeat_ref (T := "tuple") (U := "int") (by decide) ⟨_, ho, rfl⟩ (fun s' => typeIs_int s' 1 t) noFill_tuple_mul F.fills_int_mul F.slot_int_rmul repeat_tuple F.slot_int_index.lookup
      (call_meets F.slot_int_rmul (typeIs_int s 1 t) F.entry_int_rmul (F.args_int_rmul_2 _ _) (int_rmul_tuple 1 t l its.toArray n dd sl)
        ⟨ho, rfl, ⟨_, ho, rfl⟩, call_meets F.slot_tuple_mul ⟨_, ho, rfl⟩ F.entry_tuple_mul (F.args_tuple_mul_2 _ _) (tuple_mul1 l its.toArray n dd sl t) ⟨ho, ?_⟩⟩)
    refine ⟨.ref l, H, I, rfl, q l H (Ex.refl H) ?_⟩
    rw [hT]
    simp
  · have hk0 : k = 0 := by omega
    subst hk0
    refine wpAny_binaryOp_repeat_ref (T := "tuple") (U := "int") (by decide) ⟨_, ho, rfl⟩ (fun s' => typeIs_int s' 0 t) noFill_tuple_mul F.fills_int_mul F.slot_int_rmul repeat_tuple F.slot_int_index.lookup
      (call_meets F.slot_int_rmul (typeIs_int s 0 t) F.entry_int_rmul (F.args_int_rmul_2 _ _) (int_rmul_tuple 0 t l its.toArray n dd sl)
        ⟨ho, rfl, ⟨_, ho, rfl⟩, call_meets F.slot_tuple_mul ⟨_, ho, rfl⟩ F.entry_tuple_mul (F.args_tuple_mul_2 _ _) (tuple_mul0 l its.toArray n dd sl t hi) ⟨ho, ?_⟩⟩)
    refine ⟨.ref s.heap.objs.size, _, I.laid (t' := s.toks) (o := .tup []) (fun b ob q => Heap.get?_push_of_some _ q) (Nat.le_refl _) ?_, rfl, q _ _ (Ex.new (I.hok.fresh (Nat.le_refl _))) (by rw [upd_same]; rfl)⟩
    exact ⟨Nat.zero_le _, [], .nil, IsTup.new _ _⟩
end K49

namespace K49
open PySem PySem.Spec PyProof.Rows L2
open Evl (Ex)
abbrev Tri := Int × Int × Bool
def IsTr : Hp → V → Tri → Prop := fun H v d => ∃ t, v = .ref t ∧ H t = some (.tup [.int d.1, .int d.2.1, .bl d.2.2])
theorem tst_Tr : Tst IsTr := fun _ _ _ _ e h => by
  obtain ⟨t, h1, h2⟩ := h
  exact ⟨t, h1, e _ _ h2⟩
def eTr (d : Tri) : PyData := .tuple [.int d.1, .int d.2.1, .bool d.2.2]
/-- not below: the order of sorted -/
def ltTr (a b : Tri) : Bool := if a.1 = b.1 then (if a.2.1 = b.2.1 then !a.2.2 && b.2.2 else decide (a.2.1 < b.2.1)) else decide (a.1 < b.1)
def leTr (a b : Tri) : Bool := !ltTr b a
theorem dataLe_tr : PySem.W.dataLe false eTr = leTr := by
  funext p q
  show (!PySem.W.dataLt (eTr q) (eTr p)) = _
  unfold leTr
  congr 1
  unfold eTr ltTr
  rw [PySem.W.dataLt_tuple, PySem.W.dataLt_cons (by simp [PySem.W.alike]), PySem.W.dataLt_cons (by simp [PySem.W.alike]), PySem.W.dataLt_cons (by simp [PySem.W.alike]), PySem.W.dataLt_int, PySem.W.dataLt_int, PySem.W.dataLt_bool]
  have e : PyProof.Rows.lexLt itemOrd (PySem.W.keyToksAll []) (PySem.W.keyToksAll []) = false := lex_irrefl _
  rw [e]
  simp only [PyData.eqv, beq_iff_eq]
  by_cases h1 : q.1 = p.1
  · rw [if_pos h1, if_pos h1]
    by_cases h2 : q.2.1 = p.2.1
    · rw [if_pos h2, if_pos h2]
      cases q.2.2 <;> cases p.2.2 <;> decide
    · rw [if_neg h2, if_neg h2]
  · rw [if_neg h1, if_neg h1]
def rSortedTr (K : PySem.W.Frag) : List V → Hp → VK → Prop := fun vs H Q => ∃ (a : Addr) (xs : List V) (ds : List Tri), vs = [V.ref a] ∧ SqL K H a xs ∧ All IsTr H xs ds ∧ ds.length ≤ 1000 ∧ RL IsTr (ds.mergeSort leTr) H Q
theorem cr_sortedTr {X : Cx} (K : PySem.W.Frag) (hu : X.A.units + 64 < cLine) (eK : X.K = K := by rfl) : CallR X (.builtin "sorted") (rSortedTr K) := by
  subst eK
  intro pins s σ H vs us Q I r h
  obtain ⟨a, xs, ds, rfl, hs, hx, hlen, hQ⟩ := h
  obtain ⟨its, rv, hl, hz⟩ := I.list hs
  rw [Vals.ref1 r]
  -- items with their V and data
  have hxl := hx.length
  have e1 : PySem.W.EachIs (fun (v : Value) (b : V × Tri) => RelV b.1 v ∧ IsTr H b.1 b.2) its (xs.zip ds) := by
    clear hs hl hz hQ hlen hxl
    induction hx generalizing its with
    | nil => cases rv; exact .nil
    | cons q t ih =>
      cases rv with
      | cons rb rl => exact .cons ⟨rb, q⟩ (ih _ rl)
  have e2 : PySem.W.EachIs (fun v (b : V × Tri) => ∃ as, Reads s.heap v (eTr b.2) as) its (xs.zip ds) := e1.mono fun v b ⟨q1, t, q2, q3⟩ => by
    obtain ⟨_, tis, rt, ob, hb1, hb2, nb, hb3⟩ := (show ObjOk X.prog X.w H s.heap t (.tup [.int b.2.1, .int b.2.2.1, .bl b.2.2.2]) from I.hok t _ q3)
    rw [q2] at q1
    obtain rfl : v = Value.ref t := q1
    cases rt with
    | cons r1 rt =>
      cases rt with
      | cons r2 rt =>
        cases rt with
        | cons r3 rt =>
          cases rt
          obtain ⟨k1, rfl⟩ := r1
          obtain ⟨k2, rfl⟩ := r2
          obtain rfl : _ = Value.bool _ := r3
          exact ⟨_, .tuple hb1 hb2 hb3 (.cons (.int _ _) (.cons (.int _ _) (.cons (.bool _) .nil)))⟩
  have hzl : (xs.zip ds).length = ds.length := by rw [List.length_zip, hxl, Nat.min_self]
  refine PySem.W.sorted_data (enc := fun b : V × Tri => eTr b.2) hl.isList e1 e2 (PySem.W.AllAlike.of fun b b' => by simp [eTr, PySem.W.alike, PySem.W.alikeAll]) (PySem.W.Sortable.tuples fun b => ⟨_, _, rfl⟩) (by rw [hzl]; exact sz (by omega)) (fun b _ => by simp [eTr, PyData.depth, PyData.depthAll]; omega) fun out ho hE => ?_
  have hdl : PySem.W.dataLe false (fun b : V × Tri => eTr b.2) = fun p q => leTr p.2 q.2 := by
    funext p q
    exact congrFun (congrFun dataLe_tr p.2) q.2
  rw [hdl] at hE
  have hmap : ((xs.zip ds).mergeSort fun p q => leTr p.2 q.2).map Prod.snd = ds.mergeSort leTr := by
    rw [List.map_mergeSort (r := fun (p q : V × Tri) => leTr p.2 q.2) (s := leTr) (f := Prod.snd) (fun a _ b _ => rfl)]
    congr 1
    rw [List.map_snd_zip]
    omega
  obtain ⟨c, hc⟩ := PyProof.Rows.sortedAll_at s.heap its (List.toArray out)
  have hk : ∀ b o, s.heap.get? b = some o → (PyProof.Rows.sortedAll s.heap its (List.toArray out)).get? b = some o := fun b o e => PyProof.Rows.sortedAll_old e
  generalize hM : ((xs.zip ds).mergeSort fun p q => leTr p.2 q.2) = M at hE hmap
  have hv : Vals (M.map Prod.fst) out := by
    clear hmap hM hc hk ho
    induction hE with
    | nil => exact .nil
    | cons q t ih => exact .cons q.1 ih
  have hA : All IsTr H (M.map Prod.fst) (M.map Prod.snd) := by
    clear hmap hM hc hk ho hv
    induction hE with
    | nil => exact .nil
    | cons q t ih => exact .cons q.2 ih
  have hML : (M.map Prod.fst).length = ds.length := by
    rw [List.length_map, ← hM, List.length_mergeSort, hzl]
  have hfr : H (s.heap.objs.size + 1) = none := I.hok.fresh (Nat.le_succ _)
  have new : ObjOk X.prog X.w (upd H (s.heap.objs.size + 1) (.lst (M.map Prod.fst))) (PyProof.Rows.sortedAll s.heap its (List.toArray out)) (s.heap.objs.size + 1) (.lst (M.map Prod.fst)) := ⟨by rw [hML]; exact sz (by omega), out, c, hv, hc⟩
  refine ⟨.ref (s.heap.objs.size + 1), _, I.laid (t' := s.toks) hk (Nat.le_succ _) new, rfl, hQ _ _ hfr (Ex.new hfr) ⟨_, upd_same, ?_⟩⟩
  rw [← hmap]
  exact hA.mono tst_Tr.sst (Ex.new hfr)
end K49

namespace K49
open PySem PySem.Spec PyProof.Rows L2
structure DfnStar (K : PySem.W.Frag) (mg : Str → Option Value) (x : Str) (st : Stmt) (ps : List Str) (pv : Str) : Prop where
  ex : ∃ (f : Addr) (fd : FuncData) (kws : List (Str × V)), FunD K x x (defArgs st) (defBody st) (defScope st) [] kws f fd ∧ mg x = some (.ref f)
  bind : ∀ (kV doc pm : Value) (an : Option Addr) (cdv ct : Value) (us rest : List Value), us.length = ps.length → bindArgs (PySem.W.fnOf x x (defArgs st) (defBody st) (defScope st) .none kV doc pm an cdv ct) ⟨us ++ rest, []⟩ = (newTuple rest >>= fun t => pure (ps.zip us ++ [(pv, t)]))
/-- a promise told by the arguments as they come -/
structure CalR (P : Program) (w : World) (K : PySem.W.Frag) (mg : Str → Option Value) (base : Heap) (k : Nat) (x : Str) (sp : Sp) : Prop where
  ex : ∃ f : Addr, FnR P w K mg base C8.CX0 k f sp ∧ mg x = some (.ref f) ∧ PySem.W.keepIn K (.ref f) = true
def spStar (ps : List Str) (sp : Sp) : Sp := fun vs H Q E => ∃ ws rest, vs = ws ++ rest ∧ ws.length = ps.length ∧ rest.length ≤ sizeLine ∧ ∀ p, H p = Option.none → sp (ws ++ [V.ref p]) (upd H p (.tup rest)) Q E
theorem DfnStar.cal {P : Program} {w : World} {K : PySem.W.Frag} {mg : Str → Option Value} {base : Heap} {N ps : List Str} {k : Nat} {sp : Sp} {x pv : Str} {st : Stmt} (D : DfnStar K mg x st ps pv) (S : FnScope N (ps ++ [pv]) (defScope st)) (len : ∀ vs H Q E, sp vs H Q E → vs.length = (ps ++ [pv]).length)
    (hbody : ∀ (f : Addr) (cdv : Value) (A : Around) (outer : List Env) (s : Shared) (H : Hp) (vs : List V) (Q : VK) (E : XK), Room k (A.deeper (envOfC x (defScope st) s.heap.objs.size f cdv)) → sp vs H Q E →
      ∃ t, PSs (cxOf C8.CX0 P w K mg base N x (defScope st) f cdv A outer s H E).nox (defBody st) t ∧ t { nx := fun _ H' => Q .non H', rt := Q } (start N vs) H) : CalR P w K mg base (k + 1) x (spStar ps sp) := by
  obtain ⟨f, fd, kws, F, hm⟩ := D.ex
  obtain ⟨oc, od, dV, kV, doc, pm, an, cdv, ct, osl, rfl, lk, hcd, hV, _⟩ := F.ex
  obtain rfl : dV = .none := by
    rcases hV with ⟨_, e⟩ | ⟨e, _⟩
    · exact e
    · exact absurd rfl e
  refine ⟨f, StX.fn_star lk hcd S StX.cxUp_none (D.bind kV doc pm an cdv ct) (fun A outer s H vs Q E hr hs => ?_), hm, F.kp⟩
  obtain ⟨t, h1, h2⟩ := hbody f cdv A outer s H vs Q E hr hs
  exact ⟨t, PSs.nox h1, h2⟩
theorem pe_cr {X : Cx} {k j : Nat} {x : Str} {sp : Sp} {p pos : Pos} {e : Expr} {es : List Expr} {t : TA} (c : CalR X.prog X.w X.K X.mg X.base k x sp) (hr : Room j X.A) (hk : k ≤ j) (hg : Gl X x) (ha : PA X (e :: es) t)
    (hdb : (x == ("__debug__" : Str)) = false := by decide) (he : starEach (e :: es) X.env = (false, eval e X.env) :: starEach es X.env := by rfl) (hpl : (backTo pos (starEach es X.env)).any (·.1) = false := by rfl) :
    PE X (.Call (.Name x p) (e :: es) [] pos) (fun σ H Q => t σ H fun vs H1 => sp vs H1 Q C8.E0) := by
  obtain ⟨f, F, hm, kp⟩ := c.ex
  refine ⟨fun pins s σ H Q I h => ?_⟩
  refine wpAny_Call_Name_kw (ld_glob I hg hm ?_ hdb)
  refine PySem.W.callWith_K (h₀ := X.base) I.ok.mod.kin kp (thn (ha.run pos pins s σ H _ I h) fun us s1 ⟨vs, H1, I1, r, q⟩ => ⟨I1.kIn, ?_⟩) he hpl
  exact wpAny_call (run_fnR F (hr.mono hk) C8.pass0 I1 r q)
end K49

namespace K49
open PySem PySem.Spec PyProof.Rows L2
open C8 (Cal Met Mak pe_c pe_mk pe_mt pe_mt0 pe_gc)
open Evl (Ex)
theorem kpi_zipA {X : Cx} (K : PySem.W.Frag) {e1 e2 : Expr} {ta : TA} {p pos tpos : Pos} {elts : List Expr} {kk : Nat} (hg : Gl X "zip") (hm : X.mg "zip" = none) (ha : PA X [e1, e2] ta)
    (hs : starEach [e1, e2] X.env = (false, eval e1 X.env) :: starEach [e2] X.env := by rfl) (hpl : (backTo pos (starEach [e2] X.env)).any (·.1) = false := by rfl) (e : X.K = K := by rfl) :
    PI X (.Tuple elts kk tpos) (.Call (.Name "zip" p) [e1, e2] [] pos) (RZ.iZipA K ta) := e ▸ RZ.pi_zipA hg hm ha hs hpl
theorem walk_zipT {K : PySem.W.Frag} {a b : Addr} {xs ys : List V} {n : Nat} (hn : n = min xs.length ys.length) : Walk (RZ.ItzT K a b) n (fun H => SqT K H a xs ∧ SqT K H b ys) (YPair (fun i => xs[i]?) (fun i => ys[i]?)) := by
  subst hn
  refine ⟨fun i _ hi q => ?_, fun _ q => ⟨xs, ys, q.1, q.2, by omega⟩, fun i H v H' _ q y => ?_⟩
  · have h1 : i < xs.length := by omega
    have h2 : i < ys.length := by omega
    exact ⟨xs, ys, xs[i], ys[i], q.1, q.2, by simp [h1], by simp [h2]⟩
  · obtain ⟨T, x, z, h1, h2, h3, h4, h5⟩ := y
    exact ⟨T, x, z, h1, h2, h3, h4 xs q.1, h5 ys q.2⟩
abbrev View := List (Int × List Int × Bool)
abbrev NP := List (Int × List Int)
def withLabel (vw : View) (b : Bool) : NP := (vw.filter fun d => decide (d.2.2 = b)).map fun d => (d.1, d.2.1)
def below (p q : List Int) : Bool := (p.zip q).all fun d => decide (d.1 ≤ d.2)
/-- no yes below a no -/
def riseFits (vw : View) : Bool := (withLabel vw true).all fun d => (withLabel vw false).all fun e => !below d.2 e.2
def spWith : Sp := fun vs H Q _ => ∃ (v : Addr) (b : Bool) (vw : View), vs = [.ref v, .bl b] ∧ Ls IsVw H v vw ∧ vw.length ≤ 1000 ∧ RL IsNP (withLabel vw b) H Q
def spBelow : Sp := fun vs H Q _ => ∃ (x y : V) (p q : List Int), vs = [x, y] ∧ IsP H x p ∧ IsP H y q ∧ p.length ≤ 1000 ∧ RV (.bl (below p q)) H Q
/-- a judge's answer: a new pair, its first None or not -/
def RJ (fits : Prop) (H : Hp) (Q : VK) : Prop := ∀ (t : Addr) (H' : Hp) (x y : V), H t = none → Ex H H' → H' t = some (.tup [x, y]) → (x ≠ .non ↔ fits) → Q (.ref t) H'
def spJudgeRise : Sp := fun vs H Q _ => ∃ (v : Addr) (vw : View), vs = [.ref v] ∧ Ls IsVw H v vw ∧ vw.length ≤ 1000 ∧ (∀ d ∈ vw, d.2.1.length ≤ 1000) ∧ RJ (riseFits vw = true) H Q
section
variable {P : Program} {w : World} {K : PySem.W.Frag} {mg : Str → Option Value} {base : Heap}
theorem sc_with_label : FnScope ["view", "label", "number", "point", "other"] ["view", "label"] (defScope s_with_label) := C8.fnScope_by (by decide +kernel)
theorem cal_with_label (T : Txt mg) (D : Dfn K mg "with_label" s_with_label ["view", "label"] []) : Cal P w K mg base (1) "with_label" (spWith) [] := by
  have nd := sc_with_label.nd
  refine D.cal sc_with_label (fun vs H Q E h => by obtain ⟨v, b, vw, rfl, hL, hn, hQ⟩ := h; rfl) (fun f cdv A outer s H vs Q E hr h => ?_)
  obtain ⟨v, b, vw, rfl, hL, hn, hQ⟩ := h
  refine ⟨_, (pss_one (ps_ret (pe_lc rfl nd (kpi_list K (pv 0)) (blkOk_by (own := [("number", 2), ("point", 3), ("other", 4)]) (N := ["view", "label", "number", "point", "other"]) (sc := defScope s_with_label) (by decide +kernel)) (fun _ _ _ _ _ => (kpg_tup K 3 rfl (pgs_cons (pg_name (i := 2) nd rfl (Or.inl rfl)) (pgs_cons (pg_name (i := 3) nd rfl (Or.inl rfl)) (pgs_cons (pg_name (i := 4) nd rfl (Or.inl rfl)) pgs_nil))))) (fun _ _ _ _ _ => (pts_one (pt_cmpR op_eq (pv 4) (pv 1) (nomark _)))) (fun _ _ _ _ _ => (pe_tup (pa_cons (pv 2) (pa_cons (pv 3) pa_nil))))))), ?_⟩
  obtain ⟨xs, hv, hxs⟩ := hL
  have hxl := hxs.length
  refine ⟨_, rfl, v, rfl, ⟨xs, SqL.of hv⟩, fun D hD => lc_data vw (fun d => decide (d.2.2 = b)) IsNP (fun d => (d.1, d.2.1)) (Y := YAt xs) (G := fun H => SqL K H v xs) (by have z := walk_list (K := K) (a := v) (xs := xs); rw [hxl] at z; exact z) tst_NP (by omega) hD (fun H e => SqL.of (e _ _ hv)) (fun i x H H' h => h.1 ▸ Ex.refl H) (fun j l y H9 H5 hl e5 hy Ky Kn k1 k2 => ?_) (fun H5 e5 hLs => ?_)⟩
  · obtain ⟨rfl, hyj⟩ := hy
    obtain ⟨l', hl', hly⟩ := paired_of hxs hyj
    obtain rfl := Option.some.inj (hl'.symm.trans hl)
    obtain ⟨c, x, rfl, hc, hx⟩ := tst_Vw _ _ _ _ (Ex.tex e5) hly
    refine ⟨c, _, rfl, SqT.of hc, rfl, _, _, rfl, _, _, rfl, _, _, rfl, rfl, rfl, _, rfl, _, rfl, rfl, _, rfl, ?_⟩
    have ev : decide (V.bl l'.2.2 = V.bl b) = decide (l'.2.2 = b) := by
      rw [Bool.eq_iff_iff, decide_eq_true_iff, decide_eq_true_iff]
      exact ⟨fun h => V.bl.inj h, fun h => congrArg V.bl h⟩
    rw [ev]
    cases hg : decide (l'.2.2 = b) with
    | true =>
      refine iteT ⟨_, rfl, _, rfl, by show 2 ≤ sizeLine; decide, fun t ht => k1 hg _ _ (Ex.new ht) ⟨t, x, rfl, upd_same, tst_P _ _ _ _ (Ex.tex (Ex.new ht)) hx⟩⟩
    | false => exact iteF (k2 hg _ (Ex.refl _))
  · exact hQ D H5 hD e5 hLs
theorem sc_is_below : FnScope ["one", "other", "entry", "more"] ["one", "other"] (defScope s_is_below) := C8.fnScope_by (by decide +kernel)
theorem cal_is_below (T : Txt mg) (D : Dfn K mg "is_below" s_is_below ["one", "other"] []) : Cal P w K mg base (1) "is_below" (spBelow) [] := by
  have nd := sc_is_below.nd
  refine D.cal sc_is_below (fun vs H Q E h => by obtain ⟨x, y, p, q, rfl, hx, hy, hn, hQ⟩ := h; rfl) (fun f cdv A outer s H vs Q E hr h => ?_)
  obtain ⟨x, y, p, q, rfl, hx, hy, hn, hQ⟩ := h
  refine ⟨_, (pss_one (ps_ret (pe_callB (kall K rfl) rfl T.b_all (by decide +kernel) (pa_cons (pe_lc rfl nd (kpi_zipA K rfl T.b_zip (pa_cons (pv 0) (pa_cons (pv 1) pa_nil))) (blkOk_by (own := [("entry", 2), ("more", 3)]) (N := ["one", "other", "entry", "more"]) (sc := defScope s_is_below) (by decide +kernel)) (fun _ _ _ _ _ => (kpg_tup K 2 rfl (pgs_cons (pg_name (i := 2) nd rfl (Or.inl rfl)) (pgs_cons (pg_name (i := 3) nd rfl (Or.inl rfl)) pgs_nil)))) (fun _ _ _ _ _ => pts_nil) (fun _ _ _ _ _ => (pe_cmpR op_le (pv 2) (pv 3) (nomark _)))) pa_nil)))), ?_⟩
  obtain ⟨a, rfl, ha⟩ := hx
  obtain ⟨b, rfl, hb⟩ := hy
  refine ⟨_, rfl, _, rfl, a, b, _, _, rfl, .inr ⟨SqT.of ha, SqT.of hb, fun D hD => lc_data (p.zip q) (fun _ => true) IsBl (fun d => decide (d.1 ≤ d.2)) (Y := YPair (fun i => (p.map V.int)[i]?) (fun i => (q.map V.int)[i]?)) (G := fun H => SqT K H a (p.map V.int) ∧ SqT K H b (q.map V.int)) (walk_zipT (by rw [List.length_zip, List.length_map, List.length_map])) tst_Bl (by rw [List.length_zip]; omega) hD (fun H e => ⟨SqT.of (e _ _ ha), SqT.of (e _ _ hb)⟩) (fun i x H H' h => by obtain ⟨T1, y1, y2, _, hT, rfl, _⟩ := h; exact Ex.new hT) (fun j d z H9 H5 hd e5 hz Ky Kn k1 k2 => ?_) (fun H5 e5 hLs => ?_)⟩⟩
  · obtain ⟨T1, y1, y2, rfl, hT, rfl, q1, q2⟩ := hz
    have q1 : (p.map V.int)[j]? = some y1 := q1
    have q2 : (q.map V.int)[j]? = some y2 := q2
    obtain ⟨h1, h2⟩ := List.getElem?_zip_eq_some.mp hd
    rw [List.getElem?_map, h1] at q1
    rw [List.getElem?_map, h2] at q2
    obtain rfl := Option.some.inj q1
    obtain rfl := Option.some.inj q2
    exact ⟨T1, _, rfl, SqT.of upd_same, rfl, _, _, rfl, _, _, rfl, rfl, rfl, _, rfl, _, rfl, _, _, rfl, rfl, k1 rfl _ _ (Ex.refl _) rfl⟩
  · rw [filter_all] at hLs
    have hLb := ls_Bl hLs
    refine ⟨D, _, rfl, SqL.of hLb, ?_⟩
    have ev : ((p.zip q).map fun d => decide (d.1 ≤ d.2)).all id = below p q := by
      unfold below
      rw [List.all_map]
      rfl
    rw [ev]
    exact hQ H5 e5
theorem sc_judge_rise : FnScope ["view", "number", "point", "other", "more"] ["view"] (defScope s_judge_rise) := C8.fnScope_by (by decide +kernel)
theorem cal_judge_rise (T : Txt mg) (D : Dfn K mg "judge_rise" s_judge_rise ["view"] [])
    (C_with_label : Cal P w K mg base 1 "with_label" spWith []) (C_is_below : Cal P w K mg base 1 "is_below" spBelow []) : Cal P w K mg base (2) "judge_rise" (spJudgeRise) [] := by
  have nd := sc_judge_rise.nd
  refine D.cal sc_judge_rise (fun vs H Q E h => by obtain ⟨v, vw, rfl, hL, hn, hpl, hQ⟩ := h; rfl) (fun f cdv A outer s H vs Q E hr h => ?_)
  obtain ⟨v, vw, rfl, hL, hn, hpl, hQ⟩ := h
  refine ⟨_, (pss_cons (ps_for PassesOwn.never rfl (kpi_list K (pe_c C_with_label hr (by decide) rfl (pa_cons (pv 0) (pa_cons pe_bl pa_nil)))) (kpg_tup K 2 rfl (pgs_cons (pg_name (i := 1) nd rfl (Or.inl rfl)) (pgs_cons (pg_name (i := 2) nd rfl (Or.inl rfl)) pgs_nil))) (pss_one (ps_for PassesOwn.never rfl (kpi_list K (pe_c C_with_label hr (by decide) rfl (pa_cons (pv 0) (pa_cons pe_bl pa_nil)))) (kpg_tup K 2 rfl (pgs_cons (pg_name (i := 3) nd rfl (Or.inl rfl)) (pgs_cons (pg_name (i := 4) nd rfl (Or.inl rfl)) pgs_nil))) (pss_one (ps_if (pt_val (pe_c C_is_below hr (by decide) rfl (pa_cons (pv 2) (pa_cons (pv 4) pa_nil)))) (pss_one (ps_ret (pe_tup (pa_cons pe_non (pa_cons (pe_tup (pa_cons pe_str (pa_cons (pv 1) (pa_cons (pv 3) pa_nil)))) pa_nil))))) pss_nil)))))
      (pss_one (ps_ret (pe_tup (pa_cons (pe_tup (pa_cons pe_str (pa_cons (kpe_tupleOf K rfl T.b_tuple (pe_lc rfl nd (kpi_list K (pe_c C_with_label hr (by decide) rfl (pa_cons (pv 0) (pa_cons pe_bl pa_nil)))) (blkOk_by (own := [("number", 1), ("point", 2)]) (N := ["view", "number", "point", "other", "more"]) (sc := defScope s_judge_rise) (by decide +kernel)) (fun _ _ _ _ _ => (kpg_tup K 2 rfl (pgs_cons (pg_name (i := 1) nd rfl (Or.inl rfl)) (pgs_cons (pg_name (i := 2) nd rfl (Or.inl rfl)) pgs_nil)))) (fun _ _ _ _ _ => pts_nil) (fun _ _ _ _ _ => (pv 2)))) pa_nil))) (pa_cons pe_non pa_nil)))))), ?_⟩
  have wlen : ∀ b, (withLabel vw b).length ≤ 1000 := fun b => by
    unfold withLabel
    rw [List.length_map]
    exact Nat.le_trans (List.length_filter_le _ _) hn
  have wpl : ∀ b, ∀ d ∈ withLabel vw b, d.2.length ≤ 1000 := fun b d hd => by
    obtain ⟨d', hd', rfl⟩ := List.mem_map.mp hd
    exact hpl d' (List.mem_filter.mp hd').1
  refine ⟨_, rfl, v, true, vw, rfl, hL, hn, fun p H1 hp e1 hLp => ?_⟩
  obtain ⟨ys, hp1, hys⟩ := hLp
  have hyl := hys.length
  refine ⟨p, rfl, ⟨ys, SqL.of hp1⟩, for_it (walk_list (xs := ys)) (fun i σ H' => Ex H1 H' ∧ (∃ x1 x2 x3 x4, σ = [some (.ref v), x1, x2, x3, x4]) ∧ ∀ d ∈ (withLabel vw true).take i, ∀ e ∈ withLabel vw false, below d.2 e.2 = false) ⟨Ex.refl _, ⟨_, _, _, _, rfl⟩, fun d hd => by simp at hd⟩ (fun i σ H' _ h => SqL.of (h.1 _ _ hp1)) (fun i x σ H9 H' hi h hy => ?_) (fun σ H' h => ?_)⟩
  · obtain ⟨e, ⟨x1, x2, x3, x4, rfl⟩, hno⟩ := h
    obtain ⟨rfl, hxi⟩ := hy
    obtain ⟨d, hd, hr⟩ := paired_of hys hxi
    obtain ⟨b, y, rfl, hb, hy⟩ := tst_NP _ _ _ _ (Ex.tex e) hr
    refine ⟨b, _, rfl, SqT.of hb, rfl, _, _, rfl, _, _, rfl, rfl, ?_⟩
    refine ⟨_, rfl, v, false, vw, rfl, hL.mono tst_Vw.sst (e1.trans e), hn, fun p2 H2 hp2 e2 hLp2 => ?_⟩
    obtain ⟨zs, hp22, hzs⟩ := hLp2
    have hzl := hzs.length
    refine ⟨p2, rfl, ⟨zs, SqL.of hp22⟩, for_it (walk_list (xs := zs)) (fun j σ H3 => Ex H2 H3 ∧ (∃ x3 x4, σ = [some (.ref v), some (.int d.1), some y, x3, x4]) ∧ ∀ e ∈ (withLabel vw false).take j, below d.2 e.2 = false) ⟨Ex.refl _, ⟨_, _, rfl⟩, fun d hd => by simp at hd⟩ (fun j σ H3 _ h => SqL.of (h.1 _ _ hp22)) (fun j z σ H9 H3 hj h hz => ?_) (fun σ H3 h => ?_)⟩
    · obtain ⟨e3, ⟨x3, x4, rfl⟩, hno2⟩ := h
      obtain ⟨rfl, hzj⟩ := hz
      obtain ⟨d2, hd2, hr2⟩ := paired_of hzs hzj
      obtain ⟨b2, y2, rfl, hb2, hy2⟩ := tst_NP _ _ _ _ (Ex.tex e3) hr2
      refine ⟨b2, _, rfl, SqT.of hb2, rfl, _, _, rfl, _, _, rfl, rfl, ?_⟩
      refine ⟨_, rfl, _, rfl, y, y2, d.2, d2.2, rfl, tst_P _ _ _ _ (Ex.tex (e2.trans e3)) hy, hy2, wpl true d (List.mem_of_getElem? hd), fun H4 e4 => ⟨_, rfl, ?_⟩⟩
      cases hbe : below d.2 d2.2 with
      | true =>
        refine iteT ⟨_, rfl, _, rfl, by show 3 ≤ sizeLine; decide, fun t1 ht1 => ⟨by show 2 ≤ sizeLine; decide, fun t2 ht2 => ?_⟩⟩
        have e5 := ((e1.trans e).trans (e2.trans e3)).trans (e4.trans (Ex.new (o := .tup [.str "above", .int d.1, .int d2.1]) ht1))
        refine hQ t2 _ .non (.ref t1) (Evl.fresh_back e5 ht2) (e5.trans (Ex.new ht2)) upd_same ⟨fun h => absurd rfl h, fun h => ?_⟩
        have h := List.all_eq_true.mp (List.all_eq_true.mp h d (List.mem_of_getElem? hd)) d2 (List.mem_of_getElem? hd2)
        rw [hbe] at h
        cases h
      | false =>
        refine iteF ⟨e3.trans e4, ⟨_, _, rfl⟩, fun e' he' => ?_⟩
        rw [take_succ_of hd2] at he'
        rcases List.mem_append.mp he' with h | h
        · exact hno2 e' h
        · rw [List.mem_singleton.mp h]
          exact hbe
    · obtain ⟨e3, ⟨x3, x4, rfl⟩, hno2⟩ := h
      rw [hzl, List.take_length] at hno2
      refine ⟨e.trans (e2.trans e3), ⟨_, _, _, _, rfl⟩, fun d' hd' => ?_⟩
      rw [take_succ_of hd] at hd'
      rcases List.mem_append.mp hd' with h | h
      · exact hno d' h
      · rw [List.mem_singleton.mp h]
        exact hno2
  · obtain ⟨e, ⟨x1, x2, x3, x4, rfl⟩, hno⟩ := h
    rw [hyl, List.take_length] at hno
    have e12 := e1.trans e
    refine ⟨_, rfl, v, true, vw, rfl, hL.mono tst_Vw.sst e12, hn, fun p2 H2 hp2 e2 hLp2 => ?_⟩
    obtain ⟨zs, hp22, hzs⟩ := hLp2
    have hzl := hzs.length
    have hwl := wlen true
    refine ⟨p2, rfl, ⟨zs, SqL.of hp22⟩, fun D hD => lc_data (withLabel vw true) (fun _ => true) IsP (fun d => d.2) (Y := YAt zs) (G := fun H => SqL K H p2 zs) (by have z := walk_list (K := K) (a := p2) (xs := zs); rw [hzl] at z; exact z) tst_P (by omega) hD (fun H e => SqL.of (e _ _ hp22)) (fun i x H H' h => h.1 ▸ Ex.refl H) (fun j l z H9 H5 hl e5 hz Ky Kn k1 k2 => ?_) (fun H5 e5 hLs => ?_)⟩
    · obtain ⟨rfl, hzj⟩ := hz
      obtain ⟨l', hl', hr2⟩ := paired_of hzs hzj
      obtain rfl := Option.some.inj (hl'.symm.trans hl)
      obtain ⟨b2, y2, rfl, hb2, hy2⟩ := tst_NP _ _ _ _ (Ex.tex e5) hr2
      exact ⟨b2, _, rfl, SqT.of hb2, rfl, _, _, rfl, _, _, rfl, rfl, rfl, _, rfl, k1 rfl _ _ (Ex.refl _) hy2⟩
    · obtain ⟨us, hDu, _⟩ := hLs
      refine .inl ⟨D, us, rfl, SqL.of hDu, fun t1 ht1 => ⟨by show 2 ≤ sizeLine; decide, fun t2 ht2 => ⟨by show 2 ≤ sizeLine; decide, fun t3 ht3 => ?_⟩⟩⟩
      have e6 := (e12.trans (e2.trans e5)).trans ((Ex.new (o := .tup us) ht1).trans (Ex.new (o := .tup [.str "rise", .ref t1]) ht2))
      refine hQ t3 _ (.ref t2) .non (Evl.fresh_back e6 ht3) (e6.trans (Ex.new ht3)) upd_same ⟨fun _ => ?_, fun _ h => nomatch h⟩
      refine List.all_eq_true.mpr fun d hd => List.all_eq_true.mpr fun e he => ?_
      rw [hno d hd e he]
      rfl
end
end K49

namespace K49
open PySem PySem.Spec PyProof.Rows L2
open C8 (Cal Met Mak pe_c pe_mk pe_mt pe_mt0 pe_gc)
open Evl (Ex)
def colOf (pts : List (List Int)) (i : Nat) : List Int := pts.map fun p => p.getD i 0
def bounds (k : Nat) (pts : List (List Int)) : List (Int × Int) := (List.range k).map fun i => (minL (colOf pts i), maxL (colOf pts i))
def inside (p : List Int) (rs : List (Int × Int)) : Bool := (p.zip rs).all fun d => decide (d.2.1 ≤ d.1) && decide (d.1 ≤ d.2.2)
def boxFits (k : Nat) (vw : View) : Bool := (withLabel vw true).isEmpty || (withLabel vw false).all fun d => !inside d.2 (bounds k ((withLabel vw true).map fun d => d.2))
def IsII : Hp → V → Int × Int → Prop := fun H v d => ∃ t, v = .ref t ∧ H t = some (.tup [.int d.1, .int d.2])
theorem tst_II : Tst IsII := fun _ _ _ _ e h => by
  obtain ⟨t, h1, h2⟩ := h
  exact ⟨t, h1, e _ _ h2⟩
def spBounds : Sp := fun vs H Q _ => ∃ (k : Nat) (a : Addr) (pts : List (List Int)), vs = [.int k, .ref a] ∧ k ≤ 100 ∧ Ls IsP H a pts ∧ pts.length ≤ 1000 ∧ pts ≠ [] ∧ (∀ p ∈ pts, p.length = k) ∧ RL IsII (bounds k pts) H Q
def spInside : Sp := fun vs H Q _ => ∃ (v : V) (a : Addr) (p : List Int) (rs : List (Int × Int)), vs = [v, .ref a] ∧ IsP H v p ∧ p.length ≤ 1000 ∧ Ls IsII H a rs ∧ RV (.bl (inside p rs)) H Q
def spJudgeBox : Sp := fun vs H Q _ => ∃ (k : Nat) (v : Addr) (vw : View), vs = [.int k, .ref v] ∧ 1 ≤ k ∧ k ≤ 100 ∧ Ls IsVw H v vw ∧ vw.length ≤ 1000 ∧ (∀ d ∈ vw, d.2.1.length = k) ∧ RJ (boxFits k vw = true) H Q
theorem at_P {p : List Int} {i : Nat} (h : i < p.length) : atI (p.map V.int) (i : Int) = some (.int (p.getD i 0)) := by
  refine atI_nat ?_
  rw [List.getElem?_map, List.getElem?_eq_getElem h]
  simp [List.getD, List.getElem?_eq_getElem h]
def eNP (d : Int × List Int) : PyData := .tuple [.int d.1, eP d.2]
theorem enc_NP : Enc IsNP eNP := ⟨fun K H v d h => by
    obtain ⟨a, x, rfl, h1, h2⟩ := h
    exact .tup (SqT.of h1) (.cons (.int d.1) (.cons (enc_P.dp K H x d.2 h2) .nil)), fun d => by
    have := enc_P.lay d.2
    simp [eNP, PyData.canLay0, PyData.canLayAll0, this], fun d => by
    have h : (eP d.2).depth ≤ 1 := by
      have z : ∀ l : List Int, PyData.depthAll (l.map PyData.int) ≤ 0 := fun l => depthAll_map' (n := 0) (fun d => by simp [PyData.depth]) l
      have := z d.2
      simp only [eP, PyData.depth]
      omega
    simp only [eNP, PyData.depth, PyData.depthAll]
    omega⟩
section
variable {P : Program} {w : World} {K : PySem.W.Frag} {mg : Str → Option Value} {base : Heap}
theorem sc_box_bounds : FnScope ["places", "points", "at", "point"] ["places", "points"] (defScope s_box_bounds) := C8.fnScope_by (by decide +kernel)
theorem cal_box_bounds (T : Txt mg) (D : Dfn K mg "box_bounds" s_box_bounds ["places", "points"] []) : Cal P w K mg base (1) "box_bounds" (spBounds) [] := by
  have nd := sc_box_bounds.nd
  refine D.cal sc_box_bounds (fun vs H Q E h => by obtain ⟨k, a, pts, rfl, hk, hL, hn, hne, hp, hQ⟩ := h; rfl) (fun f cdv A outer s H vs Q E hr h => ?_)
  obtain ⟨k, a, pts, rfl, hk, hL, hn, hne, hp, hQ⟩ := h
  refine ⟨_, (pss_one (ps_ret (pe_lc rfl nd (pi_range1 rfl T.b_range (pa_cons (pv 0) pa_nil)) (blkOk_by (own := [("at", 2)]) (N := ["places", "points", "at", "point"]) (sc := defScope s_box_bounds) (by decide +kernel)) (fun _ _ _ _ _ => (pg_name (i := 2) nd rfl (Or.inr rfl))) (fun _ _ _ _ _ => pts_nil) (fun _ _ _ _ _ => (pe_tup (pa_cons (pe_callB (kmin K rfl) rfl T.b_min (by decide +kernel) (pa_cons (pe_lc rfl nd (kpi_list K (pv 1)) (blkOk_by (own := [("point", 3)]) (N := ["places", "points", "at", "point"]) rfl) (fun _ _ _ _ _ => (pg_name (i := 3) nd rfl (Or.inl rfl))) (fun _ _ _ _ _ => pts_nil) (fun _ _ _ _ _ => (pe_ix (kix_tup K) (pv 3) (pv 2) (fun _ _ => rfl)))) pa_nil)) (pa_cons (pe_callB (kmax K rfl) rfl T.b_max (by decide +kernel) (pa_cons (pe_lc rfl nd (kpi_list K (pv 1)) (blkOk_by (own := [("point", 3)]) (N := ["places", "points", "at", "point"]) rfl) (fun _ _ _ _ _ => (pg_name (i := 3) nd rfl (Or.inl rfl))) (fun _ _ _ _ _ => pts_nil) (fun _ _ _ _ _ => (pe_ix (kix_tup K) (pv 3) (pv 2) (fun _ _ => rfl)))) pa_nil)) pa_nil))))))), ?_⟩
  obtain ⟨xs, ha, hxs⟩ := hL
  have hxl := hxs.length
  refine ⟨_, rfl, (k : Int), rfl, by omega, by omega, fun D hD => lc_data (List.range k) (fun _ => true) IsII (fun i => (minL (colOf pts i), maxL (colOf pts i))) (Y := YFn fun i => .int (0 + i)) (G := fun _ => True) (by have z := walk_range (lo := 0) (n := (k : Int).toNat); rw [show (k : Int).toNat = (List.range k).length by rw [List.length_range]; omega] at z ⊢; exact z) tst_II (by rw [List.length_range]; omega) hD (fun H e => trivial) (fun i x H H' h => h.1 ▸ Ex.refl H) (fun j d y H9 H5 hd e5 hy Ky Kn k1 k2 => ?_) (fun H5 e5 hLs => ?_)⟩
  · obtain ⟨rfl, rfl⟩ := hy
    have hdj : d = j := by
      rw [List.getElem?_range (by have := (List.getElem?_eq_some_iff.mp hd).1; rw [List.length_range] at this; exact this)] at hd
      exact (Option.some.inj hd).symm
    subst hdj
    have hdk : d < k := by
      have := (List.getElem?_eq_some_iff.mp hd).1
      rw [List.length_range] at this
      exact this
    have inner : ∀ (H1 : Hp), Ex H H1 → ∀ (j : Nat) (x : V), xs[j]? = some x → ∃ b p, x = .ref b ∧ H1 b = some (.tup (p.map V.int)) ∧ pts[j]? = some p ∧ p.length = k := fun H1 e1 j x hx => by
      obtain ⟨p, hp1, b, hb1, hb2⟩ := paired_of hxs hx
      exact ⟨b, p, hb1, e1 _ _ hb2, hp1, hp p (List.mem_of_getElem? hp1)⟩
    have hpos : 0 < (colOf pts d).length := by
      unfold colOf
      rw [List.length_map]
      exact List.length_pos_iff.mpr hne
    refine ⟨rfl, _, rfl, a, rfl, ⟨xs, SqL.of (e5 _ _ ha)⟩, fun D2 hD2 => lc_data pts (fun _ => true) IsI (fun p => p.getD d 0) (Y := YAt xs) (G := fun H => SqL K H a xs) (by have z := walk_list (K := K) (a := a) (xs := xs); rw [hxl] at z; exact z) tst_I (by omega) hD2 (fun H e => SqL.of ((e5.trans e) _ _ ha)) (fun i x H H' h => h.1 ▸ Ex.refl H) (fun j2 p y H8 H6 hp2 e6 hy Ky2 Kn2 k3 k4 => ?_) (fun H6 e6 hL6 => ?_)⟩
    · obtain ⟨rfl, hyj⟩ := hy
      obtain ⟨b, p', rfl, hb, hp3, hpl⟩ := inner _ (e5.trans e6) _ _ hyj
      obtain rfl := Option.some.inj (hp3.symm.trans hp2)
      refine ⟨rfl, _, rfl, _, rfl, b, _, (0 + (d : Nat) : Int), .int (p'.getD d 0), rfl, rfl, SqT.of hb, ?_, k3 rfl _ _ (Ex.refl _) rfl⟩
      rw [show (0 : Int) + (d : Nat) = (d : Nat) by omega]
      exact at_P (by omega)
    · rw [filter_all] at hL6
      have hLi := ls_I hL6
      refine ⟨D2, _, rfl, SqL.of hLi, hpos, fun m1 hm1 hm2 => ?_⟩
      have em1 := minL_is hm1 hm2
      have e56 := e5.trans e6
      refine ⟨_, rfl, a, rfl, ⟨xs, SqL.of (e56 _ _ ha)⟩, fun D3 hD3 => lc_data pts (fun _ => true) IsI (fun p => p.getD d 0) (Y := YAt xs) (G := fun H => SqL K H a xs) (by have z := walk_list (K := K) (a := a) (xs := xs); rw [hxl] at z; exact z) tst_I (by omega) hD3 (fun H e => SqL.of ((e56.trans e) _ _ ha)) (fun i x H H' h => h.1 ▸ Ex.refl H) (fun j2 p y H8 H7 hp2 e7 hy Ky2 Kn2 k3 k4 => ?_) (fun H7 e7 hL7 => ?_)⟩
      · obtain ⟨rfl, hyj⟩ := hy
        obtain ⟨b, p', rfl, hb, hp3, hpl⟩ := inner _ (e56.trans e7) _ _ hyj
        obtain rfl := Option.some.inj (hp3.symm.trans hp2)
        refine ⟨rfl, _, rfl, _, rfl, b, _, (0 + (d : Nat) : Int), .int (p'.getD d 0), rfl, rfl, SqT.of hb, ?_, k3 rfl _ _ (Ex.refl _) rfl⟩
        rw [show (0 : Int) + (d : Nat) = (d : Nat) by omega]
        exact at_P (by omega)
      · rw [filter_all] at hL7
        have hLi7 := ls_I hL7
        refine ⟨D3, _, rfl, SqL.of hLi7, hpos, fun m2 hm3 hm4 => ?_⟩
        have em2 := maxL_is hm3 hm4
        refine ⟨by show 2 ≤ sizeLine; decide, fun t ht => k1 rfl _ _ ((e6.trans e7).trans (Ex.new ht)) ⟨t, rfl, ?_⟩⟩
        rw [upd_same, em1, em2]
        rfl
  · rw [filter_all] at hLs
    exact hQ D H5 hD e5 hLs
theorem sc_is_inside : FnScope ["point", "ranges", "entry", "low", "high"] ["point", "ranges"] (defScope s_is_inside) := C8.fnScope_by (by decide +kernel)
theorem cal_is_inside (T : Txt mg) (D : Dfn K mg "is_inside" s_is_inside ["point", "ranges"] []) : Cal P w K mg base (1) "is_inside" (spInside) [] := by
  have nd := sc_is_inside.nd
  refine D.cal sc_is_inside (fun vs H Q E h => by obtain ⟨v, a, p, rs, rfl, hv, hn, hL, hQ⟩ := h; rfl) (fun f cdv A outer s H vs Q E hr h => ?_)
  obtain ⟨v, a, p, rs, rfl, hv, hn, hL, hQ⟩ := h
  refine ⟨_, (pss_one (ps_ret (pe_callB (kall K rfl) rfl T.b_all (by decide +kernel) (pa_cons (pe_lc rfl nd (kpi_zipTL K rfl T.b_zip (pa_cons (pv 0) (pa_cons (pv 1) pa_nil))) (blkOk_by (own := [("entry", 2), ("low", 3), ("high", 4)]) (N := ["point", "ranges", "entry", "low", "high"]) (sc := defScope s_is_inside) (by decide +kernel)) (fun _ _ _ _ _ => (kpg_tup K 2 rfl (pgs_cons (pg_name (i := 2) nd rfl (Or.inl rfl)) (pgs_cons (kpg_tup K 2 rfl (pgs_cons (pg_name (i := 3) nd rfl (Or.inl rfl)) (pgs_cons (pg_name (i := 4) nd rfl (Or.inl rfl)) pgs_nil))) pgs_nil)))) (fun _ _ _ _ _ => pts_nil) (fun _ _ _ _ _ => (pe_chain op_le op_le (pv 3) (pv 2) (pv 4)))) pa_nil)))), ?_⟩
  obtain ⟨b, rfl, hb⟩ := hv
  obtain ⟨xs, ha, hxs⟩ := hL
  have hxl := hxs.length
  refine ⟨_, rfl, _, rfl, b, a, _, _, rfl, SqT.of hb, SqL.of ha, fun D hD => lc_data (p.zip rs) (fun _ => true) IsBl (fun d => decide (d.2.1 ≤ d.1) && decide (d.1 ≤ d.2.2)) (Y := YPair (fun i => (p.map V.int)[i]?) (fun i => xs[i]?)) (G := fun H => SqT K H b (p.map V.int) ∧ SqL K H a xs) (walk_zipTL (by rw [List.length_zip, List.length_map, hxl])) tst_Bl (by rw [List.length_zip]; omega) hD (fun H e => ⟨SqT.of (e _ _ hb), SqL.of (e _ _ ha)⟩) (fun i x H H' h => by obtain ⟨T1, y1, y2, _, hT, rfl, _⟩ := h; exact Ex.new hT) (fun j d z H9 H5 hd e5 hz Ky Kn k1 k2 => ?_) (fun H5 e5 hLs => ?_)⟩
  · obtain ⟨T1, y1, y2, rfl, hT, rfl, q1, q2⟩ := hz
    have q1 : (p.map V.int)[j]? = some y1 := q1
    have q2 : xs[j]? = some y2 := q2
    obtain ⟨h1, h2⟩ := List.getElem?_zip_eq_some.mp hd
    rw [List.getElem?_map, h1] at q1
    obtain rfl := Option.some.inj q1
    obtain ⟨r, hr, t, rfl, ht⟩ := paired_of hxs q2
    obtain rfl := Option.some.inj (hr.symm.trans h2)
    have eT := Ex.new (o := .tup [.int d.1, .ref t]) hT
    refine ⟨T1, _, rfl, SqT.of upd_same, rfl, _, _, rfl, _, _, rfl, t, _, rfl, SqT.of (eT _ _ (e5 _ _ ht)), rfl, _, _, rfl, _, _, rfl, rfl, rfl, rfl, ?_⟩
    refine ⟨_, rfl, _, rfl, _, _, rfl, rfl, _, rfl, ?_⟩
    cases h1 : decide (d.2.1 ≤ d.1) with
    | true =>
      refine iteT ⟨_, rfl, _, _, rfl, rfl, k1 rfl _ _ (Ex.refl _) ?_⟩
      rw [h1]
      rfl
    | false =>
      refine iteF (k1 rfl _ _ (Ex.refl _) ?_)
      rw [h1]
      rfl
  · rw [filter_all] at hLs
    have hLb := ls_Bl hLs
    refine ⟨D, _, rfl, SqL.of hLb, ?_⟩
    have ev : ((p.zip rs).map fun d => decide (d.2.1 ≤ d.1) && decide (d.1 ≤ d.2.2)).all id = inside p rs := by
      unfold inside
      rw [List.all_map]
      rfl
    rw [ev]
    exact hQ H5 e5
theorem sc_judge_box : FnScope ["places", "view", "yeses", "ranges", "number", "point", "pairs", "at", "least", "low", "high", "other", "one"] ["places", "view"] (defScope s_judge_box) := C8.fnScope_by (by decide +kernel)
theorem cal_judge_box (T : Txt mg) (D : Dfn K mg "judge_box" s_judge_box ["places", "view"] [])
    (C_with_label : Cal P w K mg base 1 "with_label" spWith []) (C_box_bounds : Cal P w K mg base 1 "box_bounds" spBounds []) (C_is_inside : Cal P w K mg base 1 "is_inside" spInside []) : Cal P w K mg base (2) "judge_box" (spJudgeBox) [] := by
  have nd := sc_judge_box.nd
  refine D.cal sc_judge_box (fun vs H Q E h => by obtain ⟨k, v, vw, rfl, hk1, hk, hL, hn, hpl, hQ⟩ := h; rfl) (fun f cdv A outer s H vs Q E hr h => ?_)
  obtain ⟨k, v, vw, rfl, hk1, hk, hL, hn, hpl, hQ⟩ := h
  have hu64 := room64 hr
  refine ⟨_, (pss_cons (ps_set (i := 2) nd rfl (Or.inl rfl) (pe_c C_with_label hr (by decide) rfl (pa_cons (pv 1) (pa_cons pe_bl pa_nil))))
      (pss_cons (ps_if (pt_cmpR (keqD K hu64) (pv 2) (pe_lst pa_nil) (nomark _)) (pss_one (ps_ret (pe_tup (pa_cons (pe_tup (pa_cons pe_str (pa_cons (pe_op (op_repA K) (pe_tup (pa_cons (pe_tup (pa_cons pe_int (pa_cons pe_int pa_nil))) pa_nil)) (pv 0)) pa_nil))) (pa_cons pe_non pa_nil))))) pss_nil)
      (pss_cons (ps_set (i := 3) nd rfl (Or.inl rfl) (pe_c C_box_bounds hr (by decide) rfl (pa_cons (pv 0) (pa_cons (pe_lc rfl nd (kpi_list K (pv 2)) (blkOk_by (own := [("number", 4), ("point", 5)]) (N := ["places", "view", "yeses", "ranges", "number", "point", "pairs", "at", "least", "low", "high", "other", "one"]) (sc := defScope s_judge_box) (by decide +kernel)) (fun _ _ _ _ _ => (kpg_tup K 2 rfl (pgs_cons (pg_name (i := 4) nd rfl (Or.inl rfl)) (pgs_cons (pg_name (i := 5) nd rfl (Or.inl rfl)) pgs_nil)))) (fun _ _ _ _ _ => pts_nil) (fun _ _ _ _ _ => (pv 5))) pa_nil))))
      (pss_cons (ps_for PassesOwn.never rfl (kpi_list K (pe_c C_with_label hr (by decide) rfl (pa_cons (pv 1) (pa_cons pe_bl pa_nil)))) (kpg_tup K 2 rfl (pgs_cons (pg_name (i := 4) nd rfl (Or.inl rfl)) (pgs_cons (pg_name (i := 5) nd rfl (Or.inl rfl)) pgs_nil))) (pss_one (ps_if (pt_val (pe_c C_is_inside hr (by decide) rfl (pa_cons (pv 5) (pa_cons (pv 3) pa_nil)))) (pss_cons (ps_set (i := 6) nd rfl (Or.inl rfl) (pe_lst pa_nil))
      (pss_cons (ps_for PassesOwn.never rfl (kpi_enum K rfl T.b_enumerate (pa_cons (pv 3) pa_nil)) (kpg_tup K 2 rfl (pgs_cons (pg_name (i := 7) nd rfl (Or.inr rfl)) (pgs_cons (kpg_tup K 2 rfl (pgs_cons (pg_name (i := 9) nd rfl (Or.inr rfl)) (pgs_cons (pg_name (i := 10) nd rfl (Or.inr rfl)) pgs_nil))) pgs_nil))) (pss_cons (ps_set (i := 8) nd rfl (Or.inl rfl) (pe_ix (kix_list K) (pe_lc rfl nd (kpi_list K (pv 2)) (blkOk_by (own := [("other", 11), ("one", 12)]) (N := ["places", "view", "yeses", "ranges", "number", "point", "pairs", "at", "least", "low", "high", "other", "one"]) (sc := defScope s_judge_box) (by decide +kernel)) (fun _ _ _ _ _ => (kpg_tup K 2 rfl (pgs_cons (pg_name (i := 11) nd rfl (Or.inl rfl)) (pgs_cons (pg_name (i := 12) nd rfl (Or.inl rfl)) pgs_nil)))) (fun _ _ _ _ _ => (pts_one (pt_cmpR op_eq (pe_ix (kix_tup K) (pv 12) (pv 7) (fun _ _ => rfl)) (pv 9) (nomark _)))) (fun _ _ _ _ _ => (pv 11))) pe_int (fun _ _ => rfl)))
      (pss_one (ps_expr (kpe_bm K PySem.F.plainAttrs_list PySem.F.slot_list_append PySem.F.type_list_append mt_append (pv 6) (pa_cons (pe_tup (pa_cons (pv 8) (pa_cons (pe_ix (kix_list K) (pe_lc rfl nd (kpi_list K (pv 2)) (blkOk_by (own := [("other", 11), ("one", 12)]) (N := ["places", "view", "yeses", "ranges", "number", "point", "pairs", "at", "least", "low", "high", "other", "one"]) (sc := defScope s_judge_box) (by decide +kernel)) (fun _ _ _ _ _ => (kpg_tup K 2 rfl (pgs_cons (pg_name (i := 11) nd rfl (Or.inl rfl)) (pgs_cons (pg_name (i := 12) nd rfl (Or.inl rfl)) pgs_nil)))) (fun _ _ _ _ _ => (pts_one (pt_cmpR op_eq (pe_ix (kix_tup K) (pv 12) (pv 7) (fun _ _ => rfl)) (pv 10) (nomark _)))) (fun _ _ _ _ _ => (pv 11))) pe_int (fun _ _ => rfl)) pa_nil))) pa_nil))))))
      (pss_one (ps_ret (pe_tup (pa_cons pe_non (pa_cons (pe_tup (pa_cons pe_str (pa_cons (pv 4) (pa_cons (pv 6) pa_nil)))) pa_nil))))))) pss_nil)))
      (pss_one (ps_ret (pe_tup (pa_cons (pe_tup (pa_cons pe_str (pa_cons (kpe_tupleOf K rfl T.b_tuple (pv 3)) pa_nil))) (pa_cons pe_non pa_nil))))))))), ?_⟩
  have wlen : ∀ b, (withLabel vw b).length ≤ 1000 := fun b => by
    unfold withLabel
    rw [List.length_map]
    exact Nat.le_trans (List.length_filter_le _ _) hn
  have wpl : ∀ b, ∀ d ∈ withLabel vw b, d.2.length = k := fun b d hd => by
    obtain ⟨d', hd', rfl⟩ := List.mem_map.mp hd
    exact hpl d' (List.mem_filter.mp hd').1
  refine ⟨_, rfl, v, true, vw, rfl, hL, hn, fun p H1 hp e1 hLp => ?_⟩
  refine ⟨_, rfl, by show 0 ≤ sizeLine; decide, fun b0 hb0 => ?_⟩
  have eb0 := Ex.new (o := .lst []) hb0
  refine eq_nil enc_NP (hLp.mono tst_NP.sst eb0) upd_same ⟨_, rfl, ?_⟩
  have hL1 := hLp.mono tst_NP.sst eb0
  have hV1 := hL.mono tst_Vw.sst (e1.trans eb0)
  have e1' := e1.trans eb0
  generalize upd H1 b0 (.lst []) = H2 at hL1 hV1 e1'
  cases hE : (withLabel vw true).isEmpty with
  | true =>
    refine iteT ⟨by show 2 ≤ sizeLine; decide, fun t1 ht1 => ⟨by show 1 ≤ sizeLine; decide, fun t2 ht2 => ?_⟩⟩
    have e3 := (Ex.new (o := .tup [.int 1, .int 0]) ht1).trans (Ex.new (o := .tup [.ref t1]) ht2)
    refine ⟨_, rfl, t2, k, [.ref t1], rfl, rfl, upd_same, (by simp), by omega, by omega, by simp, fun t3 H3 e4 ht3 => ?_⟩
    refine ⟨by show 2 ≤ sizeLine; decide, fun t4 ht4 => ⟨by show 2 ≤ sizeLine; decide, fun t5 ht5 => ?_⟩⟩
    have e5 := ((e1'.trans e3).trans e4).trans (Ex.new (o := .tup [.str "box", .ref t3]) ht4)
    exact hQ t5 _ (.ref t4) .non (Evl.fresh_back e5 ht5) (e5.trans (Ex.new ht5)) upd_same ⟨fun _ => by unfold boxFits; rw [hE]; rfl, fun _ h => nomatch h⟩
  | false =>
    refine iteF ?_
    have hne : withLabel vw true ≠ [] := fun e => by rw [e] at hE; cases hE
    obtain ⟨ys, hp1, hys⟩ := hL1
    have hyl := hys.length
    have hwl := wlen true
    refine ⟨_, rfl, _, rfl, p, rfl, ⟨ys, SqL.of hp1⟩, fun D hD => lc_data (withLabel vw true) (fun _ => true) IsP (fun d => d.2) (Y := YAt ys) (G := fun H => SqL K H p ys) (by have z := walk_list (K := K) (a := p) (xs := ys); rw [hyl] at z; exact z) tst_P (by omega) hD (fun H e => SqL.of (e _ _ hp1)) (fun i x H H' h => h.1 ▸ Ex.refl H) (fun j l z H9 H5 hl e5 hz Ky Kn k1 k2 => ?_) (fun H5 e5 hLs => ?_)⟩
    · obtain ⟨rfl, hzj⟩ := hz
      obtain ⟨l', hl', hr2⟩ := paired_of hys hzj
      obtain rfl := Option.some.inj (hl'.symm.trans hl)
      obtain ⟨b2, y2, rfl, hb2, hy2⟩ := tst_NP _ _ _ _ (Ex.tex e5) hr2
      exact ⟨b2, _, rfl, SqT.of hb2, rfl, _, _, rfl, _, _, rfl, rfl, rfl, _, rfl, k1 rfl _ _ (Ex.refl _) hy2⟩
    · rw [filter_all] at hLs
      refine ⟨k, D, (withLabel vw true).map fun d => d.2, rfl, hk, hLs, by rw [List.length_map]; exact hwl, by simpa using hne, fun q hq => ?_, fun r H6 hr6 e6 hLr => ?_⟩
      · obtain ⟨d, hd, rfl⟩ := List.mem_map.mp hq
        exact wpl true d hd
      have e16 := (e1'.trans e5).trans e6
      have hys6 := hys.mono tst_NP.sst (e5.trans e6)
      have hp6 := (e5.trans e6) _ _ hp1
      have hV6 := hV1.mono tst_Vw.sst (e5.trans e6)
      refine ⟨_, rfl, v, false, vw, rfl, hV6, hn, fun p2 H7 hp7 e7 hLp2 => ?_⟩
      obtain ⟨zs, hp72, hzs⟩ := hLp2
      have hzl := hzs.length
      have hLr7 := hLr.mono tst_II.sst e7
      have hys7 := hys6.mono tst_NP.sst e7
      have hp77 := e7 _ _ hp6
      have e17 := e16.trans e7
      refine ⟨p2, rfl, ⟨zs, SqL.of hp72⟩, for_it (walk_list (xs := zs)) (fun i σ H' => Ex H7 H' ∧ (∃ x4 x5 x6 x7 x8 x9 x10 x11 x12, σ = [some (.int k), some (.ref v), some (.ref p), some (.ref r), x4, x5, x6, x7, x8, x9, x10, x11, x12]) ∧ ∀ d ∈ (withLabel vw false).take i, inside d.2 (bounds k ((withLabel vw true).map fun d => d.2)) = false) ⟨Ex.refl _, ⟨_, _, _, _, _, _, _, _, _, rfl⟩, fun d hd => by simp at hd⟩ (fun i σ H' _ h => SqL.of (h.1 _ _ hp72)) (fun i x σ H9 H' hi h hy => ?_) (fun σ H' h => ?_)⟩
      · obtain ⟨e, ⟨x4, x5, x6, x7, x8, x9, x10, x11, x12, rfl⟩, hno⟩ := h
        obtain ⟨rfl, hxi⟩ := hy
        obtain ⟨d, hd, hrd⟩ := paired_of hzs hxi
        obtain ⟨b, y, rfl, hb, hy⟩ := tst_NP _ _ _ _ (Ex.tex e) hrd
        refine ⟨b, _, rfl, SqT.of hb, rfl, _, _, rfl, _, _, rfl, rfl, ?_⟩
        refine ⟨_, rfl, _, rfl, y, r, d.2, _, rfl, hy, by rw [wpl false d (List.mem_of_getElem? hd)]; omega, hLr7.mono tst_II.sst e, fun H8 e8 => ⟨_, rfl, ?_⟩⟩
        cases hin : inside d.2 (bounds k ((withLabel vw true).map fun d => d.2)) with
        | false =>
          refine iteF ⟨e.trans e8, ⟨_, _, _, _, _, _, _, _, _, rfl⟩, fun d' hd' => ?_⟩
          rw [take_succ_of hd] at hd'
          rcases List.mem_append.mp hd' with h | h
          · exact hno d' h
          · rw [List.mem_singleton.mp h]
            exact hin
        | true =>
          refine iteT ⟨by show 0 ≤ sizeLine; decide, fun q hq => ?_⟩
          have e9 : Ex H8 (upd H8 q (.lst [])) := Ex.new hq
          obtain ⟨us, hr7, hus⟩ := hLr7
          have hul := hus.length
          have e78 := e.trans e8
          have hbl : (bounds k ((withLabel vw true).map fun d => d.2)).length = k := by simp [bounds]
          refine ⟨_, rfl, r, us, rfl, SqL.of ((e78.trans e9) _ _ hr7), for_it (walk_enum (xs := us)) (fun j σ H3 => Ex H8 H3 ∧ (∃ x7 x8 x9 x10 x11 x12, σ = [some (.int k), some (.ref v), some (.ref p), some (.ref r), some (.int d.1), some y, some (.ref q), x7, x8, x9, x10, x11, x12]) ∧ ∃ ws, H3 q = some (.lst ws) ∧ ws.length = j) ⟨e9, ⟨_, _, _, _, _, _, rfl⟩, [], upd_same, rfl⟩ (fun j σ H3 _ h => SqL.of (h.1 _ _ (e78 _ _ hr7))) (fun j z σ H9 H3 hj h hz => ?_) (fun σ H3 h => ?_)⟩
          · obtain ⟨e3, ⟨x7, x8, x9, x10, x11, x12, rfl⟩, ws, hws, hwsl⟩ := h
            obtain ⟨T1, y1, y2, rfl, hT, rfl, q1, q2⟩ := hz
            obtain rfl := Option.some.inj q1
            have q2 : us[j]? = some y2 := q2
            obtain ⟨rg, hrg, t, rfl, ht⟩ := paired_of hus q2
            have hjk : j < k := by omega
            have hrg2 : rg = (minL (colOf ((withLabel vw true).map fun d => d.2) j), maxL (colOf ((withLabel vw true).map fun d => d.2) j)) := by
              unfold bounds at hrg
              rw [List.getElem?_map, List.getElem?_range hjk] at hrg
              exact (Option.some.inj hrg).symm
            have eT := Ex.new (o := .tup [.int (j : Nat), .ref t]) hT
            have e8T := e3.trans eT
            have eAT := e78.trans e8T
            refine ⟨T1, _, rfl, SqT.of upd_same, rfl, _, _, rfl, _, _, rfl, t, _, rfl, SqT.of (eAT _ _ ht), rfl, _, _, rfl, _, _, rfl, rfl, rfl, ?_⟩
            have exc : ∀ c ∈ colOf ((withLabel vw true).map fun d => d.2) j, ∃ i0 ir, ((withLabel vw true).filter fun d => decide (d.2.getD j 0 = c)).map (fun d => d.1) = i0 :: ir := fun c hc => by
              obtain ⟨p0, hp0, rfl⟩ := List.mem_map.mp hc
              obtain ⟨d0, hd0, rfl⟩ := List.mem_map.mp hp0
              cases hh : ((withLabel vw true).filter fun d => decide (d.2.getD j 0 = d0.2.getD j 0)) with
              | nil =>
                have : d0 ∈ ((withLabel vw true).filter fun d => decide (d.2.getD j 0 = d0.2.getD j 0)) := List.mem_filter.mpr ⟨hd0, decide_eq_true rfl⟩
                rw [hh] at this
                cases this
              | cons a b => exact ⟨_, _, rfl⟩
            have hcol : colOf ((withLabel vw true).map fun d => d.2) j ≠ [] := by
              unfold colOf
              simpa using hne
            obtain ⟨l0, lr, hlo⟩ := exc rg.1 (by rw [hrg2]; exact minL_mem hcol)
            obtain ⟨m0, mr, hhi⟩ := exc rg.2 (by rw [hrg2]; exact maxL_mem hcol)
            have hpA := eAT _ _ hp77
            have hysA := hys7.mono tst_NP.sst eAT
            have hwsA := eT _ _ hws
            generalize hHA : upd H9 T1 (.tup [.int (j : Nat), .ref t]) = HA at eT e8T eAT hpA hysA hwsA ⊢
            -- one filter
            have step : ∀ (c : Int) (H1 : Hp), Ex HA H1 → ∀ (jj : Nat) (l : Int × List Int) (z : V), (withLabel vw true)[jj]? = some l → ys[jj]? = some z → ∃ b2 y2, z = .ref b2 ∧ H1 b2 = some (.tup [.int l.1, y2]) ∧ ∃ b3, y2 = .ref b3 ∧ H1 b3 = some (.tup (l.2.map V.int)) ∧ l.2.length = k := fun c H1 e1 jj l z hl hz => by
              obtain ⟨l', hl', hr2⟩ := paired_of hysA hz
              obtain rfl := Option.some.inj (hl'.symm.trans hl)
              obtain ⟨b2, y2, rfl, hb2, b3, rfl, hb3⟩ := tst_NP _ _ _ _ (Ex.tex e1) hr2
              exact ⟨b2, _, rfl, hb2, b3, rfl, hb3, wpl true l' (List.mem_of_getElem? hl)⟩
            refine ⟨_, rfl, p, rfl, ⟨ys, SqL.of hpA⟩, fun D1 hD1 => lc_data (withLabel vw true) (fun d => decide (d.2.getD j 0 = rg.1)) IsI (fun d => d.1) (Y := YAt ys) (G := fun H => SqL K H p ys) (by have z := walk_list (K := K) (a := p) (xs := ys); rw [hyl] at z; exact z) tst_I (by omega) hD1 (fun H e => SqL.of (e _ _ hpA)) (fun i x H H' h => h.1 ▸ Ex.refl H) (fun jj l z H8' H5' hl e5' hz Ky Kn k1 k2 => ?_) (fun H5' e5' hLs' => ?_)⟩
            · obtain ⟨rfl, hzj⟩ := hz
              obtain ⟨b2, y2, rfl, hb2, b3, rfl, hb3, hl3⟩ := step rg.1 _ e5' jj l z hl hzj
              refine ⟨b2, _, rfl, SqT.of hb2, rfl, _, _, rfl, _, _, rfl, rfl, rfl, ?_⟩
              refine ⟨_, rfl, _, rfl, b3, _, (j : Int), .int (l.2.getD j 0), rfl, rfl, SqT.of hb3, at_P (by omega), _, rfl, rfl, _, rfl, ?_⟩
              have ev : decide (V.int (l.2.getD j 0) = V.int rg.1) = decide (l.2.getD j 0 = rg.1) := by
                rw [Bool.eq_iff_iff, decide_eq_true_iff, decide_eq_true_iff]
                exact ⟨fun h => V.int.inj h, fun h => congrArg V.int h⟩
              rw [ev]
              cases hg : decide (l.2.getD j 0 = rg.1) with
              | true => exact iteT ⟨_, rfl, k1 hg _ _ (Ex.refl _) rfl⟩
              | false => exact iteF (k2 hg _ (Ex.refl _))
            · rw [hlo] at hLs'
              have hLi := ls_I hLs'
              refine ⟨D1, _, 0, .int l0, rfl, rfl, SqL.of hLi, atI_nat (j := 0) rfl, ?_⟩
              have hpB := e5' _ _ hpA
              have hwsB := e5' _ _ hwsA
              refine ⟨_, rfl, .inl ⟨rfl, _, SqL.of hwsB⟩, _, rfl, _, rfl, p, rfl, ⟨ys, SqL.of hpB⟩, fun D2 hD2 => lc_data (withLabel vw true) (fun d => decide (d.2.getD j 0 = rg.2)) IsI (fun d => d.1) (Y := YAt ys) (G := fun H => SqL K H p ys) (by have z := walk_list (K := K) (a := p) (xs := ys); rw [hyl] at z; exact z) tst_I (by omega) hD2 (fun H e => SqL.of (e _ _ hpB)) (fun i x H H' h => h.1 ▸ Ex.refl H) (fun jj l z H8' H6' hl e6' hz Ky Kn k1 k2 => ?_) (fun H6' e6' hLs2 => ?_)⟩
              · obtain ⟨rfl, hzj⟩ := hz
                obtain ⟨b2, y2, rfl, hb2, b3, rfl, hb3, hl3⟩ := step rg.2 _ (e5'.trans e6') jj l z hl hzj
                refine ⟨b2, _, rfl, SqT.of hb2, rfl, _, _, rfl, _, _, rfl, rfl, rfl, ?_⟩
                refine ⟨_, rfl, _, rfl, b3, _, (j : Int), .int (l.2.getD j 0), rfl, rfl, SqT.of hb3, at_P (by omega), _, rfl, rfl, _, rfl, ?_⟩
                have ev : decide (V.int (l.2.getD j 0) = V.int rg.2) = decide (l.2.getD j 0 = rg.2) := by
                  rw [Bool.eq_iff_iff, decide_eq_true_iff, decide_eq_true_iff]
                  exact ⟨fun h => V.int.inj h, fun h => congrArg V.int h⟩
                rw [ev]
                cases hg : decide (l.2.getD j 0 = rg.2) with
                | true => exact iteT ⟨_, rfl, k1 hg _ _ (Ex.refl _) rfl⟩
                | false => exact iteF (k2 hg _ (Ex.refl _))
              · rw [hhi] at hLs2
                have hLi2 := ls_I hLs2
                refine ⟨D2, _, 0, .int m0, rfl, rfl, SqL.of hLi2, atI_nat (j := 0) rfl, by show 2 ≤ sizeLine; decide, fun t9 ht9 => ?_⟩
                have e9' := e6'.trans (Ex.new (o := .tup [.int l0, .int m0]) ht9)
                have hwsC := e9' _ _ hwsB
                refine ⟨q, ws, _, rfl, rfl, hwsC, szl (by omega), Ex.mut ((e8T.trans e5').trans e9') hq, ⟨_, _, _, _, _, _, rfl⟩, _, upd_same, ?_⟩
                rw [List.length_append, hwsl]
                rfl
          · obtain ⟨e3, ⟨x7, x8, x9, x10, x11, x12, rfl⟩, ws, hws, hwsl⟩ := h
            refine ⟨_, rfl, _, rfl, by show 3 ≤ sizeLine; decide, fun t1 ht1 => ⟨by show 2 ≤ sizeLine; decide, fun t2 ht2 => ?_⟩⟩
            have e10 := ((e17.trans e78).trans e3).trans (Ex.new (o := .tup [.str "between", .int d.1, .ref q]) ht1)
            refine hQ t2 _ .non (.ref t1) (Evl.fresh_back e10 ht2) (e10.trans (Ex.new ht2)) upd_same ⟨fun h => absurd rfl h, fun h => ?_⟩
            unfold boxFits at h
            rw [hE, Bool.false_or] at h
            have h := List.all_eq_true.mp h d (List.mem_of_getElem? hd)
            rw [hin] at h
            cases h
      · obtain ⟨e, ⟨x4, x5, x6, x7, x8, x9, x10, x11, x12, rfl⟩, hno⟩ := h
        rw [hzl, List.take_length] at hno
        obtain ⟨us, hr7, hus⟩ := hLr7
        refine ⟨_, rfl, .inl ⟨r, us, rfl, SqL.of (e _ _ hr7), fun t1 ht1 => ⟨by show 2 ≤ sizeLine; decide, fun t2 ht2 => ⟨by show 2 ≤ sizeLine; decide, fun t3 ht3 => ?_⟩⟩⟩⟩
        have e9 := (e17.trans e).trans ((Ex.new (o := .tup us) ht1).trans (Ex.new (o := .tup [.str "box", .ref t1]) ht2))
        refine hQ t3 _ (.ref t2) .non (Evl.fresh_back e9 ht3) (e9.trans (Ex.new ht3)) upd_same ⟨fun _ => ?_, fun _ h => nomatch h⟩
        unfold boxFits
        rw [hE, Bool.false_or]
        refine List.all_eq_true.mpr fun d hd => ?_
        rw [hno d hd]
        rfl
end
end K49

namespace K49
open PySem PySem.Spec PyProof.Rows L2
open C8 (Cal Met Mak pe_c pe_mk pe_mt pe_mt0 pe_gc)
open Evl (Ex)
def triOf (vw : View) : List Tri := vw.map fun d => (d.2.1.getD 0 0, d.1, d.2.2)
def inOrder (vw : View) : List Tri := (triOf vw).mergeSort leTr
def clash (rows : List Tri) : Bool := (rows.zip (rows.drop 1)).any fun d => decide (d.1.1 = d.2.1) && !decide (d.1.2.2 = d.2.2.2)
def addC (acc : List Tri) (d : Tri) : List Tri := match acc.getLast? with
  | none => acc ++ [d]
  | some l => if l.2.2 = d.2.2 then acc else acc ++ [d]
def chosenOf (rows : List Tri) : List Tri := rows.foldl addC []
def turnFits (m : Nat) (vw : View) : Bool := !clash (inOrder vw) && decide ((chosenOf (inOrder vw)).length ≤ m + 1)
def spInOrder : Sp := fun vs H Q _ => ∃ (v : Addr) (vw : View), vs = [.ref v] ∧ Ls IsVw H v vw ∧ vw.length ≤ 100 ∧ (∀ d ∈ vw, d.2.1 ≠ []) ∧ RL IsTr (inOrder vw) H Q
def spJudgeTurns : Sp := fun vs H Q _ => ∃ (m : Nat) (v : Addr) (vw : View), vs = [.int m, .ref v] ∧ m ≤ 100 ∧ Ls IsVw H v vw ∧ vw.length ≤ 100 ∧ (∀ d ∈ vw, d.2.1 ≠ []) ∧ RJ (turnFits m vw = true) H Q
theorem cut_drop (xs : List V) (k : Nat) : cutV xs (some (k : Int)) none = xs.drop k := by
  unfold cutV
  rw [HT.sIx_nat, HT.sIx_none]
  by_cases h : k ≤ xs.length
  · rw [Nat.min_eq_left h, List.take_of_length_le (by rw [List.length_drop]; exact Nat.le_refl _)]
  · rw [Nat.min_eq_right (by omega), List.drop_eq_nil_of_le (Nat.le_refl _), List.drop_eq_nil_of_le (by omega)]
    simp
theorem cut_take (xs : List V) (k : Nat) : cutV xs none (some (k : Int)) = xs.take k := by
  unfold cutV
  rw [HT.sIx_nat, HT.sIx_none, List.drop_zero, Nat.sub_zero]
  by_cases h : k ≤ xs.length
  · rw [Nat.min_eq_left h]
  · rw [Nat.min_eq_right (by omega), List.take_of_length_le (Nat.le_refl _), List.take_of_length_le (by omega)]
theorem paired_drop {γ δ : Type} {F : γ → δ → Prop} : ∀ {l : List γ} {m : List δ} (k : Nat), Paired F l m → Paired F (l.drop k) (m.drop k)
  | _, _, 0, h => h
  | _, _, _ + 1, .nil => .nil
  | _, _, k + 1, .cons _ t => paired_drop k t
theorem paired_take {γ δ : Type} {F : γ → δ → Prop} : ∀ {l : List γ} {m : List δ} (k : Nat), Paired F l m → Paired F (l.take k) (m.take k)
  | _, _, 0, _ => .nil
  | _, _, _ + 1, .nil => .nil
  | _, _, k + 1, .cons r t => .cons r (paired_take k t)
theorem enc_Tr : Enc IsTr eTr := ⟨fun K H v d h => by
    obtain ⟨a, rfl, h1⟩ := h
    exact .tup (SqT.of h1) (.cons (.int d.1) (.cons (.int d.2.1) (.cons (.bl d.2.2) .nil))), fun d => by
    simp [eTr, PyData.canLay0, PyData.canLayAll0], fun d => by
    simp [eTr, PyData.depth, PyData.depthAll]⟩
theorem addC_len (acc : List Tri) (d : Tri) : (addC acc d).length ≤ acc.length + 1 := by
  unfold addC
  split
  · simp
  · split
    · omega
    · simp
theorem chosen_take (rows : List Tri) (i : Nat) : (chosenOf (rows.take i)).length ≤ i := by
  have h : ∀ (rs acc : List Tri), (rs.foldl addC acc).length ≤ acc.length + rs.length := fun rs => by
    induction rs with
    | nil => intro acc; exact Nat.le_refl _
    | cons r rs ih =>
      intro acc
      have h1 := ih (addC acc r)
      have h2 := addC_len acc r
      rw [List.foldl_cons, List.length_cons]
      omega
  have z := h (rows.take i) []
  rw [List.length_take] at z
  simp only [chosenOf]
  simp at z
  omega
theorem chosen_snoc (rows : List Tri) (d : Tri) : chosenOf (rows ++ [d]) = addC (chosenOf rows) d := by
  unfold chosenOf
  rw [List.foldl_append]
  rfl
section
variable {P : Program} {w : World} {K : PySem.W.Frag} {mg : Str → Option Value} {base : Heap}
theorem sc_in_order : FnScope ["view", "number", "point", "label"] ["view"] (defScope s_in_order) := C8.fnScope_by (by decide +kernel)
theorem cal_in_order (T : Txt mg) (D : Dfn K mg "in_order" s_in_order ["view"] []) : Cal P w K mg base (1) "in_order" (spInOrder) [] := by
  have nd := sc_in_order.nd
  refine D.cal sc_in_order (fun vs H Q E h => by obtain ⟨v, vw, rfl, hL, hn, hne, hQ⟩ := h; rfl) (fun f cdv A outer s H vs Q E hr h => ?_)
  obtain ⟨v, vw, rfl, hL, hn, hne, hQ⟩ := h
  have hu64 := room64 hr
  refine ⟨_, (pss_one (ps_ret (pe_callB (cr_sortedTr K hu64) rfl T.b_sorted (by decide +kernel) (pa_cons (pe_lc rfl nd (kpi_list K (pv 0)) (blkOk_by (own := [("number", 1), ("point", 2), ("label", 3)]) (N := ["view", "number", "point", "label"]) (sc := defScope s_in_order) (by decide +kernel)) (fun _ _ _ _ _ => (kpg_tup K 3 rfl (pgs_cons (pg_name (i := 1) nd rfl (Or.inl rfl)) (pgs_cons (pg_name (i := 2) nd rfl (Or.inl rfl)) (pgs_cons (pg_name (i := 3) nd rfl (Or.inl rfl)) pgs_nil))))) (fun _ _ _ _ _ => pts_nil) (fun _ _ _ _ _ => (pe_tup (pa_cons (pe_ix (kix_tup K) (pv 2) pe_int (fun _ _ => rfl)) (pa_cons (pv 1) (pa_cons (pv 3) pa_nil)))))) pa_nil)))), ?_⟩
  obtain ⟨xs, hv, hxs⟩ := hL
  have hxl := hxs.length
  refine ⟨_, rfl, v, rfl, ⟨xs, SqL.of hv⟩, fun D hD => lc_data vw (fun _ => true) IsTr (fun d => (d.2.1.getD 0 0, d.1, d.2.2)) (Y := YAt xs) (G := fun H => SqL K H v xs) (by have z := walk_list (K := K) (a := v) (xs := xs); rw [hxl] at z; exact z) tst_Tr (by omega) hD (fun H e => SqL.of (e _ _ hv)) (fun i x H H' h => h.1 ▸ Ex.refl H) (fun j l y H9 H5 hl e5 hy Ky Kn k1 k2 => ?_) (fun H5 e5 hLs => ?_)⟩
  · obtain ⟨rfl, hyj⟩ := hy
    obtain ⟨l', hl', hly⟩ := paired_of hxs hyj
    obtain rfl := Option.some.inj (hl'.symm.trans hl)
    obtain ⟨c, x, rfl, hc, b, rfl, hb⟩ := tst_Vw _ _ _ _ (Ex.tex e5) hly
    have hl0 := hne l' (List.mem_of_getElem? hl)
    refine ⟨c, _, rfl, SqT.of hc, rfl, _, _, rfl, _, _, rfl, _, _, rfl, rfl, rfl, ?_⟩
    refine ⟨_, rfl, b, _, 0, .int (l'.2.1.getD 0 0), rfl, rfl, SqT.of hb, ?_, _, rfl, _, rfl, by show 3 ≤ sizeLine; decide, fun t ht => k1 rfl _ _ (Ex.new ht) ⟨t, rfl, upd_same⟩⟩
    cases hp : l'.2.1 with
    | nil => exact absurd hp hl0
    | cons a r => exact atI_nat (j := 0) rfl
  · rw [filter_all] at hLs
    obtain ⟨ys, hD5, hys⟩ := hLs
    refine ⟨D, ys, _, rfl, SqL.of hD5, hys, by rw [List.length_map]; omega, fun p H6 hp e6 hL6 => ?_⟩
    exact hQ p H6 (Evl.fresh_back e5 hp) (e5.trans e6) hL6
theorem sc_judge_turns : FnScope ["most", "view", "rows", "chosen", "entry", "number", "label", "more", "other", "mark"] ["most", "view"] (defScope s_judge_turns) := C8.fnScope_by (by decide +kernel)
theorem cal_judge_turns (T : Txt mg) (D : Dfn K mg "judge_turns" s_judge_turns ["most", "view"] [])
    (C_in_order : Cal P w K mg base 1 "in_order" spInOrder []) : Cal P w K mg base (2) "judge_turns" (spJudgeTurns) [] := by
  have nd := sc_judge_turns.nd
  refine D.cal sc_judge_turns (fun vs H Q E h => by obtain ⟨m, v, vw, rfl, hm, hL, hn, hne, hQ⟩ := h; rfl) (fun f cdv A outer s H vs Q E hr h => ?_)
  obtain ⟨m, v, vw, rfl, hm, hL, hn, hne, hQ⟩ := h
  have hu64 := room64 hr
  refine ⟨_, (pss_cons (ps_set (i := 2) nd rfl (Or.inl rfl) (pe_c C_in_order hr (by decide) rfl (pa_cons (pv 1) pa_nil)))
      (pss_cons (ps_for PassesOwn.never rfl (kpi_zip K rfl T.b_zip (pa_cons (pv 2) (pa_cons (pe_slice (ksl_list K) (pv 2) (po_some pe_int) po_none) pa_nil))) (kpg_tup K 2 rfl (pgs_cons (kpg_tup K 3 rfl (pgs_cons (pg_name (i := 4) nd rfl (Or.inl rfl)) (pgs_cons (pg_name (i := 5) nd rfl (Or.inl rfl)) (pgs_cons (pg_name (i := 6) nd rfl (Or.inl rfl)) pgs_nil)))) (pgs_cons (kpg_tup K 3 rfl (pgs_cons (pg_name (i := 7) nd rfl (Or.inl rfl)) (pgs_cons (pg_name (i := 8) nd rfl (Or.inl rfl)) (pgs_cons (pg_name (i := 9) nd rfl (Or.inl rfl)) pgs_nil)))) pgs_nil))) (pss_one (ps_if (PW.pt (pw_and (pt_cmpR op_eq (pv 4) (pv 7) (nomark _)) (pw_and1 (pt_cmpR op_ne (pv 6) (pv 9) (nomark _))))) (pss_one (ps_ret (pe_tup (pa_cons pe_non (pa_cons (pe_tup (pa_cons pe_str (pa_cons (pe_lst (pa_cons (pv 5) (pa_cons (pv 8) pa_nil))) pa_nil))) pa_nil))))) pss_nil)))
      (pss_cons (ps_set (i := 3) nd rfl (Or.inl rfl) (pe_lst pa_nil))
      (pss_cons (ps_for PassesOwn.never rfl (kpi_list K (pv 2)) (kpg_tup K 3 rfl (pgs_cons (pg_name (i := 4) nd rfl (Or.inl rfl)) (pgs_cons (pg_name (i := 5) nd rfl (Or.inl rfl)) (pgs_cons (pg_name (i := 6) nd rfl (Or.inl rfl)) pgs_nil)))) (pss_one (ps_if (PW.pt (pw_or (pt_cmpR (keqD K hu64) (pv 3) (pe_lst pa_nil) (nomark _)) (pw_or1 (pt_cmpR op_ne (pe_ix (kix_tup K) (pe_ix (kix_list K) (pv 3) (pe_un un_neg pe_int) (fun _ _ => rfl)) pe_int (fun _ _ => rfl)) (pv 6) (nomark _))))) (pss_one (ps_expr (kpe_bm K PySem.F.plainAttrs_list PySem.F.slot_list_append PySem.F.type_list_append mt_append (pv 3) (pa_cons (pe_tup (pa_cons (pv 4) (pa_cons (pv 5) (pa_cons (pv 6) pa_nil)))) pa_nil)))) pss_nil)))
      (pss_cons (ps_if (pt_cmpR op_gt (pe_callB (klen K) rfl T.b_len PySem.boot_len (pa_cons (pv 3) pa_nil)) (pe_op op_add (pv 0) pe_int) (nomark _)) (pss_one (ps_ret (pe_tup (pa_cons pe_non (pa_cons (pe_tup (pa_cons pe_str (pa_cons (pe_lc rfl nd (kpi_list K (pe_slice (ksl_list K) (pv 3) po_none (po_some (pe_op op_add (pv 0) pe_int)))) (blkOk_by (own := [("entry", 4), ("number", 5), ("label", 6)]) (N := ["most", "view", "rows", "chosen", "entry", "number", "label", "more", "other", "mark"]) (sc := defScope s_judge_turns) (by decide +kernel)) (fun _ _ _ _ _ => (kpg_tup K 3 rfl (pgs_cons (pg_name (i := 4) nd rfl (Or.inl rfl)) (pgs_cons (pg_name (i := 5) nd rfl (Or.inl rfl)) (pgs_cons (pg_name (i := 6) nd rfl (Or.inl rfl)) pgs_nil))))) (fun _ _ _ _ _ => pts_nil) (fun _ _ _ _ _ => (pv 5))) pa_nil))) pa_nil))))) pss_nil)
      (pss_cons (ps_if (pt_cmpR (keqD K hu64) (pv 3) (pe_lst pa_nil) (nomark _)) (pss_one (ps_ret (pe_tup (pa_cons (pe_tup (pa_cons pe_str (pa_cons pe_bl (pa_cons (pe_tup pa_nil) pa_nil)))) (pa_cons pe_non pa_nil))))) pss_nil)
      (pss_one (ps_ret (pe_tup (pa_cons (pe_tup (pa_cons pe_str (pa_cons (pe_ix (kix_tup K) (pe_ix (kix_list K) (pv 3) pe_int (fun _ _ => rfl)) pe_int (fun _ _ => rfl)) (pa_cons (kpe_tupleOf K rfl T.b_tuple (pe_lc rfl nd (kpi_list K (pe_slice (ksl_list K) (pv 3) (po_some pe_int) po_none)) (blkOk_by (own := [("entry", 4), ("number", 5), ("label", 6)]) (N := ["most", "view", "rows", "chosen", "entry", "number", "label", "more", "other", "mark"]) (sc := defScope s_judge_turns) (by decide +kernel)) (fun _ _ _ _ _ => (kpg_tup K 3 rfl (pgs_cons (pg_name (i := 4) nd rfl (Or.inl rfl)) (pgs_cons (pg_name (i := 5) nd rfl (Or.inl rfl)) (pgs_cons (pg_name (i := 6) nd rfl (Or.inl rfl)) pgs_nil))))) (fun _ _ _ _ _ => pts_nil) (fun _ _ _ _ _ => (pv 4)))) pa_nil)))) (pa_cons pe_non pa_nil))))))))))), ?_⟩
  refine ⟨_, rfl, v, vw, rfl, hL, hn, hne, fun p H1 hp e1 hLp => ?_⟩
  obtain ⟨ys, hp1, hys⟩ := hLp
  have hyl := hys.length
  have hlen : (inOrder vw).length = vw.length := by
    unfold inOrder triOf
    rw [List.length_mergeSort, List.length_map]
  refine ⟨_, rfl, _, rfl, 1, rfl, p, ys, rfl, SqL.of hp1, fun p2 hp2 => ?_⟩
  have e2 : Ex H1 (upd H1 p2 (.lst (cutV ys (some 1) none))) := Ex.new hp2
  have hc : cutV ys (some 1) none = ys.drop 1 := cut_drop ys 1
  rw [hc] at e2 ⊢
  have hd : All IsTr H1 (ys.drop 1) ((inOrder vw).drop 1) := paired_drop 1 hys
  have hdl : (ys.drop 1).length = ys.length - 1 := List.length_drop
  have hzl : ((inOrder vw).zip ((inOrder vw).drop 1)).length = min ys.length (ys.drop 1).length := by
    rw [List.length_zip, List.length_drop, hyl, hdl, hyl]
  have hp1' := e2 _ _ hp1
  have hp2' : (upd H1 p2 (.lst (ys.drop 1))) p2 = some (.lst (ys.drop 1)) := upd_same
  have hys2 := hys.mono tst_Tr.sst e2
  have hd2 := All.mono tst_Tr.sst e2 hd
  have e12 := e1.trans e2
  generalize upd H1 p2 (.lst (ys.drop 1)) = H2 at e2 hp1' hp2' hys2 hd2 e12
  refine ⟨p, p2, ys, ys.drop 1, rfl, SqL.of hp1', SqL.of hp2', for_it (walk_zip (n := ((inOrder vw).zip ((inOrder vw).drop 1)).length) hzl) (fun i σ H' => Ex H2 H' ∧ (∃ x3 x4 x5 x6 x7 x8 x9, σ = [some (.int m), some (.ref v), some (.ref p), x3, x4, x5, x6, x7, x8, x9]) ∧ ∀ d ∈ ((inOrder vw).zip ((inOrder vw).drop 1)).take i, (decide (d.1.1 = d.2.1) && !decide (d.1.2.2 = d.2.2.2)) = false) ⟨Ex.refl _, ⟨_, _, _, _, _, _, _, rfl⟩, fun d hd => by simp at hd⟩ (fun i σ H' _ h => ⟨SqL.of (h.1 _ _ hp1'), SqL.of (h.1 _ _ hp2')⟩) (fun i x σ H9 H' hi h hy => ?_) (fun σ H' h => ?_)⟩
  · obtain ⟨e, ⟨x3, x4, x5, x6, x7, x8, x9, rfl⟩, hno⟩ := h
    obtain ⟨T1, y1, y2, rfl, hT, rfl, q1, q2⟩ := hy
    have q1 : ys[i]? = some y1 := q1
    have q2 : (ys.drop 1)[i]? = some y2 := q2
    obtain ⟨a, ha, t1, rfl, ht1⟩ := paired_of hys2 q1
    obtain ⟨b, hb, t2, rfl, ht2⟩ := paired_of hd2 q2
    have hab : ((inOrder vw).zip ((inOrder vw).drop 1))[i]? = some (a, b) := List.getElem?_zip_eq_some.mpr ⟨ha, hb⟩
    have eT := Ex.new (o := .tup [.ref t1, .ref t2]) hT
    have eA := e.trans eT
    refine ⟨T1, _, rfl, SqT.of upd_same, rfl, _, _, rfl, t1, _, rfl, SqT.of (eA _ _ ht1), rfl, _, _, rfl, _, _, rfl, _, _, rfl, rfl, _, _, rfl, t2, _, rfl, SqT.of (eA _ _ ht2), rfl, _, _, rfl, _, _, rfl, _, _, rfl, rfl, rfl, ?_⟩
    have evI : ∀ x y : Int, decide (V.int x = V.int y) = decide (x = y) := fun x y => by
      rw [Bool.eq_iff_iff, decide_eq_true_iff, decide_eq_true_iff]
      exact ⟨fun h => V.int.inj h, fun h => congrArg V.int h⟩
    have evB : ∀ x y : Bool, decide (V.bl x = V.bl y) = decide (x = y) := fun x y => by
      rw [Bool.eq_iff_iff, decide_eq_true_iff, decide_eq_true_iff]
      exact ⟨fun h => V.bl.inj h, fun h => congrArg V.bl h⟩
    have keep : (decide (a.1 = b.1) && !decide (a.2.2 = b.2.2)) = false → ∀ d ∈ ((inOrder vw).zip ((inOrder vw).drop 1)).take (i + 1), (decide (d.1.1 = d.2.1) && !decide (d.1.2.2 = d.2.2.2)) = false := fun h d' hd' => by
      rw [take_succ_of hab] at hd'
      rcases List.mem_append.mp hd' with q | q
      · exact hno d' q
      · rw [List.mem_singleton.mp q]
        exact h
    refine ⟨_, rfl, _, rfl, rfl, _, rfl, ?_⟩
    rw [evI]
    cases h1 : decide (a.1 = b.1) with
    | false => exact iteF (iteF ⟨eA, ⟨_, _, _, _, _, _, _, rfl⟩, keep (by rw [h1]; rfl)⟩)
    | true =>
      refine iteT ⟨_, rfl, _, rfl, rfl, _, rfl, ?_⟩
      rw [evB]
      cases h2 : decide (a.2.2 = b.2.2) with
      | true => exact iteF ⟨eA, ⟨_, _, _, _, _, _, _, rfl⟩, keep (by rw [h2]; exact Bool.and_false _)⟩
      | false =>
        refine iteT ⟨_, rfl, _, rfl, by show 2 ≤ sizeLine; decide, fun u1 hu1 => ⟨by show 2 ≤ sizeLine; decide, fun u2 hu2 => ⟨by show 2 ≤ sizeLine; decide, fun u3 hu3 => ?_⟩⟩⟩
        have e9 := (e12.trans eA).trans ((Ex.new (o := .lst [.int a.2.1, .int b.2.1]) hu1).trans (Ex.new (o := .tup [.str "turns", .ref u1]) hu2))
        refine hQ u3 _ .non (.ref u2) (Evl.fresh_back e9 hu3) (e9.trans (Ex.new hu3)) upd_same ⟨fun h => absurd rfl h, fun h => ?_⟩
        have hcl : clash (inOrder vw) = true := List.any_eq_true.mpr ⟨(a, b), List.mem_of_getElem? hab, by show (decide (a.1 = b.1) && !decide (a.2.2 = b.2.2)) = true; rw [h1, h2]; rfl⟩
        unfold turnFits at h
        rw [hcl] at h
        cases h
  · obtain ⟨e, ⟨x3, x4, x5, x6, x7, x8, x9, rfl⟩, hno⟩ := h
    rw [List.take_length] at hno
    have hcl : clash (inOrder vw) = false := by
      unfold clash
      rw [List.any_eq_false]
      intro d hd
      rw [hno d hd]
      decide
    refine ⟨by show 0 ≤ sizeLine; decide, fun q hq => ?_⟩
    have e3 : Ex H' (upd H' q (.lst [])) := Ex.new hq
    have eA := e.trans e3
    refine ⟨_, rfl, p, rfl, ⟨ys, SqL.of (eA _ _ hp1')⟩, for_it (walk_list (xs := ys)) (fun i σ H3 => Ex H' H3 ∧ (∃ x4 x5 x6 x7 x8 x9, σ = [some (.int m), some (.ref v), some (.ref p), some (.ref q), x4, x5, x6, x7, x8, x9]) ∧ Ls IsTr H3 q (chosenOf ((inOrder vw).take i))) ⟨e3, ⟨_, _, _, _, _, _, rfl⟩, [], upd_same, .nil⟩ (fun i σ H3 _ h => SqL.of (h.1 _ _ (e _ _ hp1'))) (fun i x σ H9 H3 hi h hy => ?_) (fun σ H3 h => ?_)⟩
    · obtain ⟨eB, ⟨x4, x5, x6, x7, x8, x9, rfl⟩, zs, hq3, hzs⟩ := h
      obtain ⟨rfl, hxi⟩ := hy
      obtain ⟨d, hd, t, rfl, ht⟩ := paired_of hys2 hxi
      have ht3 := (e.trans eB) _ _ ht
      refine ⟨t, _, rfl, SqT.of ht3, rfl, _, _, rfl, _, _, rfl, _, _, rfl, rfl, ?_⟩
      refine ⟨_, rfl, by show 0 ≤ sizeLine; decide, fun b1 hb1 => ?_⟩
      have eb1 := Ex.new (o := .lst []) hb1
      have htk := take_succ_of hd
      have hcs := chosen_snoc ((inOrder vw).take i) d
      rw [← htk] at hcs
      have hct := chosen_take (inOrder vw) i
      generalize chosenOf ((inOrder vw).take i) = cs at hzs hcs hct
      have hzl3 := hzs.length
      -- the row is added
      have add : ∀ H4, Ex H3 H4 → addC cs d = cs ++ [d] → ∀ t2, H4 t2 = none → (upd H4 t2 (.tup [.int d.1, .int d.2.1, .bl d.2.2])) q = some (.lst zs) ∧ zs.length < sizeLine ∧ Ex H' (upd (upd H4 t2 (.tup [.int d.1, .int d.2.1, .bl d.2.2])) q (.lst (zs ++ [.ref t2]))) ∧ Ls IsTr (upd (upd H4 t2 (.tup [.int d.1, .int d.2.1, .bl d.2.2])) q (.lst (zs ++ [.ref t2]))) q (chosenOf ((inOrder vw).take (i + 1))) := fun H4 e4 hadd t2 ht2 => by
        have e5 := e4.trans (Ex.new (o := .tup [.int d.1, .int d.2.1, .bl d.2.2]) ht2)
        have hq5 := e5 _ _ hq3
        refine ⟨hq5, szl (by omega), Ex.mut (eB.trans e5) hq, _, upd_same, ?_⟩
        rw [hcs, hadd]
        refine paired_app ((hzs.mono tst_Tr.sst e5).tmono tst_Tr (TEx.lst _ hq5)) (.cons ⟨t2, rfl, (TEx.lst _ hq5) _ _ upd_same⟩ .nil)
      refine eq_nil enc_Tr ((⟨zs, eb1 _ _ hq3, hzs.mono tst_Tr.sst eb1⟩ : Ls IsTr _ q cs)) upd_same ⟨_, rfl, ?_⟩
      cases hE : cs.isEmpty with
      | true =>
        have hce : cs = [] := List.isEmpty_iff.mp hE
        refine iteT (iteT ⟨_, rfl, .inl ⟨rfl, _, SqL.of (eb1 _ _ hq3)⟩, _, rfl, _, rfl, _, rfl, by show 3 ≤ sizeLine; decide, fun t2 ht2 => ?_⟩)
        obtain ⟨k1, k2, k3, k4⟩ := add _ eb1 (by rw [hce]; rfl) t2 ht2
        exact ⟨q, zs, _, rfl, rfl, k1, k2, k3, ⟨_, _, _, _, _, _, rfl⟩, k4⟩
      | false =>
        have hce : cs ≠ [] := fun h => by rw [h] at hE; cases hE
        obtain ⟨ce, ci, hcs2⟩ : ∃ ce ci, cs = ci ++ [ce] := ⟨cs.getLast hce, cs.dropLast, (List.dropLast_concat_getLast hce).symm⟩
        have hlast : cs.getLast? = some ce := by rw [hcs2]; simp
        obtain ⟨zl, hz1, t4, rfl, ht4⟩ := paired_at (i := ci.length) (d := ce) hzs (by rw [hcs2]; simp)
        have hzlast : atI zs (-1) = some (.ref t4) := by
          have hne2 : zs ≠ [] := fun h => by rw [h] at hz1; simp at hz1
          have hd2 := List.dropLast_concat_getLast hne2
          have hlen2 : zs.length = ci.length + 1 := by rw [hzl3, hcs2]; simp
          have hg : zs.getLast hne2 = .ref t4 := by
            rw [List.getLast_eq_getElem]
            have z3 := List.getElem?_eq_getElem (l := zs) (i := ci.length) (by omega)
            rw [hz1] at z3
            have e4 : zs.length - 1 = ci.length := by omega
            simp only [e4]
            exact (Option.some.inj z3).symm
          rw [hg] at hd2
          rw [← hd2]
          unfold atI ixN
          rw [List.length_append, if_neg (by decide), if_pos (by simp; omega)]
          show (zs.dropLast ++ [V.ref t4])[((-1 : Int) + ((zs.dropLast.length + 1 : Nat) : Int)).toNat]? = _
          rw [show ((-1 : Int) + ((zs.dropLast.length + 1 : Nat) : Int)).toNat = zs.dropLast.length from by omega]
          simp
        refine iteF ⟨_, rfl, 1, rfl, q, zs, -1, .ref t4, rfl, rfl, SqL.of (eb1 _ _ hq3), hzlast, t4, _, 2, .bl ce.2.2, rfl, rfl, SqT.of (eb1 _ _ ht4), rfl, _, rfl, rfl, _, rfl, ?_⟩
        have evB : ∀ x y : Bool, decide (V.bl x = V.bl y) = decide (x = y) := fun x y => by
          rw [Bool.eq_iff_iff, decide_eq_true_iff, decide_eq_true_iff]
          exact ⟨fun h => V.bl.inj h, fun h => congrArg V.bl h⟩
        rw [evB]
        cases hl : decide (ce.2.2 = d.2.2) with
        | true =>
          have hl := of_decide_eq_true hl
          refine iteF ⟨eB.trans eb1, ⟨_, _, _, _, _, _, rfl⟩, ?_⟩
          rw [hcs]
          have : addC cs d = cs := by
            unfold addC
            rw [hlast]
            exact if_pos hl
          rw [this]
          exact ⟨zs, eb1 _ _ hq3, hzs.mono tst_Tr.sst eb1⟩
        | false =>
          have hl := of_decide_eq_false hl
          refine iteT ⟨_, rfl, .inl ⟨rfl, _, SqL.of (eb1 _ _ hq3)⟩, _, rfl, _, rfl, _, rfl, by show 3 ≤ sizeLine; decide, fun t2 ht2 => ?_⟩
          obtain ⟨k1, k2, k3, k4⟩ := add _ eb1 (by
            unfold addC
            rw [hlast]
            exact if_neg hl) t2 ht2
          exact ⟨q, zs, _, rfl, rfl, k1, k2, k3, ⟨_, _, _, _, _, _, rfl⟩, k4⟩
    · obtain ⟨eB, ⟨x4, x5, x6, x7, x8, x9, rfl⟩, zs, hq3, hzs⟩ := h
      rw [hyl, List.take_length] at hzs
      have hct := chosen_take (inOrder vw) (inOrder vw).length
      rw [List.take_length] at hct
      have hzl3 := hzs.length
      have e13 := (e12.trans e).trans eB
      have eqF : turnFits m vw = decide ((chosenOf (inOrder vw)).length ≤ m + 1) := by
        unfold turnFits
        rw [hcl]
        rfl
      refine ⟨_, rfl, q, zs, rfl, .inl (SqL.of hq3), _, rfl, _, _, rfl, rfl, _, _, rfl, rfl, _, rfl, ?_⟩
      have ev : decide (((m : Int) + 1) < ((zs.length : Nat) : Int)) = !decide ((chosenOf (inOrder vw)).length ≤ m + 1) := by
        rw [hzl3]
        by_cases h : (chosenOf (inOrder vw)).length ≤ m + 1
        · rw [decide_eq_true h, decide_eq_false (by omega)]
          rfl
        · rw [decide_eq_false h, decide_eq_true (by omega)]
          rfl
      rw [ev, ← eqF]
      cases hF : turnFits m vw with
      | false =>
        refine iteT ⟨_, rfl, _, rfl, _, _, rfl, rfl, (m : Int) + 2, rfl, q, zs, rfl, SqL.of hq3, fun p5 hp5 => ?_⟩
        rw [show (m : Int) + 2 = ((m + 2 : Nat) : Int) by omega, cut_take]
        have e5 := Ex.new (o := .lst (zs.take (m + 2))) hp5
        have hz5 : All IsTr (upd H3 p5 (.lst (zs.take (m + 2)))) (zs.take (m + 2)) ((chosenOf (inOrder vw)).take (m + 2)) := All.mono tst_Tr.sst e5 (paired_take (m + 2) hzs)
        have hz5l := hz5.length
        have hp55 : (upd H3 p5 (.lst (zs.take (m + 2)))) p5 = some (.lst (zs.take (m + 2))) := upd_same
        generalize upd H3 p5 (.lst (zs.take (m + 2))) = H5 at e5 hz5 hp55
        refine ⟨p5, rfl, ⟨_, SqL.of hp55⟩, fun D hD => lc_data ((chosenOf (inOrder vw)).take (m + 2)) (fun _ => true) IsI (fun d => d.2.1) (Y := YAt (zs.take (m + 2))) (G := fun H => SqL K H p5 (zs.take (m + 2))) (by have z := walk_list (K := K) (a := p5) (xs := zs.take (m + 2)); rw [hz5l] at z; exact z) tst_I (by rw [List.length_take]; omega) hD (fun H e => SqL.of (e _ _ hp55)) (fun i x H H' h => h.1 ▸ Ex.refl H) (fun j l y H9 H6 hl e6 hy Ky Kn k1 k2 => ?_) (fun H6 e6 hLs => ?_)⟩
        · obtain ⟨rfl, hyj⟩ := hy
          obtain ⟨l', hl', t, rfl, ht⟩ := paired_of hz5 hyj
          exact ⟨t, _, rfl, SqT.of (e6 _ _ ht), rfl, _, _, rfl, _, _, rfl, _, _, rfl, rfl, rfl, _, rfl, k1 rfl _ _ (Ex.refl _) (by obtain rfl := Option.some.inj (hl'.symm.trans hl); rfl)⟩
        · refine ⟨by show 2 ≤ sizeLine; decide, fun u2 hu2 => ⟨by show 2 ≤ sizeLine; decide, fun u3 hu3 => ?_⟩⟩
          have e9 := (e13.trans (e5.trans e6)).trans (Ex.new (o := .tup [.str "turns", .ref D]) hu2)
          exact hQ u3 _ .non (.ref u2) (Evl.fresh_back e9 hu3) (e9.trans (Ex.new hu3)) upd_same ⟨fun h => absurd rfl h, fun h => by rw [hF] at h; cases h⟩
      | true =>
        refine iteF ⟨_, rfl, by show 0 ≤ sizeLine; decide, fun b1 hb1 => ?_⟩
        have eb1 := Ex.new (o := .lst []) hb1
        refine eq_nil enc_Tr ((⟨zs, eb1 _ _ hq3, hzs.mono tst_Tr.sst eb1⟩ : Ls IsTr _ q (chosenOf (inOrder vw)))) upd_same ⟨_, rfl, ?_⟩
        have hq4 := eb1 _ _ hq3
        have hz4 := hzs.mono tst_Tr.sst eb1
        have e14 := e13.trans eb1
        generalize upd H3 b1 (.lst []) = H4 at hq4 hz4 e14
        have last : ∀ H5, Ex H H5 → ∀ u2, H5 u2 = none → ∀ w', ∀ u3, (upd H5 u2 (.tup w')) u3 = none → Q (.ref u3) (upd (upd H5 u2 (.tup w')) u3 (.tup [.ref u2, .non])) := fun H5 e5 u2 hu2 w' u3 hu3 => by
          have e9 := e5.trans (Ex.new (o := .tup w') hu2)
          exact hQ u3 _ (.ref u2) .non (Evl.fresh_back e9 hu3) (e9.trans (Ex.new hu3)) upd_same ⟨fun _ => hF, fun _ h => nomatch h⟩
        cases hE : (chosenOf (inOrder vw)).isEmpty with
        | true =>
          exact iteT ⟨by show 0 ≤ sizeLine; decide, fun u1 hu1 => ⟨by show 3 ≤ sizeLine; decide, fun u2 hu2 => ⟨by show 2 ≤ sizeLine; decide, fun u3 hu3 => last _ (e14.trans (Ex.new hu1)) u2 hu2 _ u3 hu3⟩⟩⟩
        | false =>
          obtain ⟨c0, cr, hcs2⟩ : ∃ c0 cr, chosenOf (inOrder vw) = c0 :: cr := by
            cases hc : chosenOf (inOrder vw) with
            | nil => rw [hc] at hE; cases hE
            | cons a b => exact ⟨a, b, rfl⟩
          obtain ⟨z0, hz0, t4, rfl, ht4⟩ := paired_at (i := 0) (d := c0) hz4 (by rw [hcs2]; rfl)
          refine iteF ⟨_, rfl, q, zs, 0, .ref t4, rfl, rfl, SqL.of hq4, atI_nat (j := 0) hz0, t4, _, 2, .bl c0.2.2, rfl, rfl, SqT.of ht4, rfl, ?_⟩
          refine ⟨_, rfl, 1, rfl, q, zs, rfl, SqL.of hq4, fun p5 hp5 => ?_⟩
          have hcd : cutV zs (some 1) none = zs.drop 1 := cut_drop zs 1
          rw [hcd]
          have e5 := Ex.new (o := .lst (zs.drop 1)) hp5
          have hz5 : All IsTr (upd H4 p5 (.lst (zs.drop 1))) (zs.drop 1) ((chosenOf (inOrder vw)).drop 1) := All.mono tst_Tr.sst e5 (paired_drop 1 hz4)
          have hz5l := hz5.length
          have hp55 : (upd H4 p5 (.lst (zs.drop 1))) p5 = some (.lst (zs.drop 1)) := upd_same
          generalize upd H4 p5 (.lst (zs.drop 1)) = H5 at e5 hz5 hp55
          refine ⟨p5, rfl, ⟨_, SqL.of hp55⟩, fun D hD => lc_data ((chosenOf (inOrder vw)).drop 1) (fun _ => true) IsI (fun d => d.1) (Y := YAt (zs.drop 1)) (G := fun H => SqL K H p5 (zs.drop 1)) (by have z := walk_list (K := K) (a := p5) (xs := zs.drop 1); rw [hz5l] at z; exact z) tst_I (by rw [List.length_drop]; omega) hD (fun H e => SqL.of (e _ _ hp55)) (fun i x H H' h => h.1 ▸ Ex.refl H) (fun j l y H9 H6 hl e6 hy Ky Kn k1 k2 => ?_) (fun H6 e6 hLs => ?_)⟩
          · obtain ⟨rfl, hyj⟩ := hy
            obtain ⟨l', hl', t, rfl, ht⟩ := paired_of hz5 hyj
            exact ⟨t, _, rfl, SqT.of (e6 _ _ ht), rfl, _, _, rfl, _, _, rfl, _, _, rfl, rfl, rfl, _, rfl, k1 rfl _ _ (Ex.refl _) (by obtain rfl := Option.some.inj (hl'.symm.trans hl); rfl)⟩
          · have hD6 := ls_I hLs
            refine .inl ⟨D, _, rfl, SqL.of hD6, fun u1 hu1 => ⟨by show 3 ≤ sizeLine; decide, fun u2 hu2 => ⟨by show 2 ≤ sizeLine; decide, fun u3 hu3 => last _ ((e14.trans (e5.trans e6)).trans (Ex.new hu1)) u2 hu2 _ u3 hu3⟩⟩⟩
end
end K49

namespace K49
open PySem PySem.Spec PyProof.Rows L2
open C8 (Cal Met Mak pe_c pe_mk pe_mt pe_mt0 pe_gc)
open Evl (Ex)
/-- a row: a list of ints -/
def IsRw : Hp → V → List Int → Prop := fun H v r => ∃ a, v = .ref a ∧ H a = some (.lst (r.map V.int))
theorem sst_Rw : Sst IsRw := fun _ _ _ _ e h => by
  obtain ⟨a, h1, h2⟩ := h
  exact ⟨a, h1, e _ _ h2⟩
/-- below 2 ^ n -/
def Bnd (n : Nat) (x : Int) : Prop := x.natAbs < 2 ^ n
theorem Bnd.log {n : Nat} {x : Int} (h : Bnd n x) : x.natAbs.log2 ≤ n := by
  by_cases z : x.natAbs = 0
  · rw [z]
    exact Nat.zero_le _
  · have := (Nat.log2_lt z).mpr h
    omega
theorem Bnd.mulW {n m : Nat} {x y : Int} (h : Bnd n x) (h2 : Bnd m y) (hl : n + m < 1000000) : CMulW x y := by
  have a := h.log
  have b := h2.log
  unfold CMulW
  omega
theorem Bnd.mono {n m : Nat} {x : Int} (h : Bnd n x) (hl : n ≤ m) : Bnd m x := Nat.lt_of_lt_of_le h (Nat.pow_le_pow_right (by decide) hl)
theorem Bnd.mul {n m : Nat} {x y : Int} (h : Bnd n x) (h2 : Bnd m y) : Bnd (n + m) (x * y) := by
  unfold Bnd at *
  rw [Int.natAbs_mul, Nat.pow_add]
  exact Nat.mul_lt_mul'' h h2
theorem Bnd.sub {n : Nat} {x y : Int} (h : Bnd n x) (h2 : Bnd n y) : Bnd (n + 1) (x - y) := by
  unfold Bnd at *
  rw [Nat.pow_succ]
  omega
def RowB (n : Nat) (r : List Int) : Prop := ∀ x ∈ r, Bnd n x
theorem RowB.getD {n : Nat} {r : List Int} (h : RowB n r) (hn : 1 ≤ n) (i : Nat) : Bnd n (r.getD i 0) := by
  by_cases hi : i < r.length
  · simp only [List.getD, List.getElem?_eq_getElem hi, Option.getD_some]
    exact h _ (List.getElem_mem hi)
  · simp only [List.getD, List.getElem?_eq_none (Nat.le_of_not_lt hi), Option.getD_none]
    unfold Bnd
    have : 1 ≤ 2 ^ n := Nat.one_le_two_pow
    show (0 : Int).natAbs < _
    simp
    omega
def clearedRow (r h : List Int) (c : Nat) : List Int := if r.getD c 0 = 0 then r else (r.zip h).map fun d => d.1 * h.getD c 0 - r.getD c 0 * d.2
theorem clearedRow_len {r h : List Int} {c : Nat} (e : r.length = h.length) : (clearedRow r h c).length = r.length := by
  unfold clearedRow
  split
  · rfl
  · rw [List.length_map, List.length_zip, e, Nat.min_self]
theorem clearedRow_bnd {n : Nat} {r h : List Int} {c : Nat} (hn : 1 ≤ n) (hr : RowB n r) (hh : RowB n h) : RowB (2 * n + 1) (clearedRow r h c) := by
  unfold clearedRow
  split
  · exact fun x hx => (hr x hx).mono (by omega)
  · intro x hx
    obtain ⟨d, hd, rfl⟩ := List.mem_map.mp hx
    have h1 := hr d.1 (List.of_mem_zip hd).1
    have h2 := hh d.2 (List.of_mem_zip hd).2
    have q1 := h1.mul (hh.getD hn c)
    have q2 := (hr.getD hn c).mul h2
    have := q1.sub q2
    exact this.mono (by omega)
def spCleared : Sp := fun vs H Q _ => ∃ (v h : V) (c : Nat) (r hd : List Int) (n : Nat), vs = [v, h, .int c] ∧ IsRw H v r ∧ IsRw H h hd ∧ c < r.length ∧ r.length = hd.length ∧ r.length ≤ 100 ∧ 1 ≤ n ∧ n ≤ 1000 ∧ RowB n r ∧ RowB n hd ∧
  ∀ p H', H p = none → Ex H H' → H' p = some (.lst ((clearedRow r hd c).map V.int)) → Q (.ref p) H'
theorem at_L {p : List Int} {i : Nat} (h : i < p.length) : atI (p.map V.int) (i : Int) = some (.int (p.getD i 0)) := at_P h
/-- .. the list itself out of sight -/
theorem lc_data3 {α β : Type} {J : It} {G : Hp → Prop} {Y : Nat → Hp → V → Hp → Prop} {g : TG} {tt : TT} {te : TE} {vs : List Nat} {σ : L2.St} {H1 : Hp} {D : Addr} {Qd : Hp → Prop} (ds : List α) (keep : α → Bool) (R : Hp → V → β → Prop) (el : α → β)
    (wk : Walk J ds.length G Y) (s : Sst R) (hn : ds.length ≤ 40000) (hD : H1 D = none) (hG : ∀ H, Ex H1 H → G H) (hY : ∀ i x H H', Y i H x H' → Ex H H')
    (hs : ∀ i d x H H' ys, ds[i]? = some d → Ex H1 H → H' D = some (.lst ys) → Y i H x H' → ∀ (Ky : V → Hp → Prop) (Kn : Hp → Prop), (keep d = true → ∀ y H4, Ex H' H4 → R (hid D H4) y (el d) → Ky y H4) → (keep d = false → ∀ H4, Ex H' H4 → Kn H4) →
      g x (wipe σ vs) H' fun σ2 H2 => wipe σ2 vs = wipe σ vs ∧ tt σ2 H2 fun b H3 => if b = true then te σ2 H3 Ky else Kn H3)
    (hd : ∀ H, Ex H1 H → ∀ xs, H D = some (.lst xs) → All R (hid D H) xs ((ds.filter keep).map el) → Qd H) :
    ∃ W : Nat → Nat → Hp → Prop, (∃ m, W 0 m (upd H1 D (.lst []))) ∧ ∀ i m H, W i m H →
      (J.stop i H ∧ Qd H) ∨ (J.go i H ∧ ∃ Nx : Hp → Prop, (∀ H', Nx H' → ∃ m', m' < m ∧ W (i + 1) m' H') ∧ ∀ x H', J.yld i H x H' → g x (wipe σ vs) H' fun σ2 H2 => wipe σ2 vs = wipe σ vs ∧ tt σ2 H2 fun b H3 =>
        if b = true then te σ2 H3 fun y H4 => ∃ acc, H4 D = some (.lst acc) ∧ acc.length < sizeLine ∧ Nx (upd H4 D (.lst (acc ++ [y]))) else Nx H3) := by
  refine lc_it wk (fun i H => Ex H1 H ∧ ∃ xs, H D = some (.lst xs) ∧ All R (hid D H) xs (((ds.take i).filter keep).map el)) ⟨Ex.mut (Ex.refl H1) hD, [], upd_same, .nil⟩ (fun i H _ h => hG H h.1) (fun i x H H' hi h hy => ?_) (fun H h => ?_)
  · obtain ⟨e, xs, hx, ha⟩ := h
    obtain ⟨d, hdd⟩ : ∃ d, ds[i]? = some d := ⟨ds[i], List.getElem?_eq_getElem hi⟩
    have eY := hY i x H H' hy
    have et := take_succ_of hdd
    refine hs i d x H H' xs hdd e (eY D _ hx) hy _ _ (fun hk y H4 e4 hr => ?_) (fun hk H4 e4 => ?_)
    · have ex : Ex H H4 := eY.trans e4
      have hl : xs.length ≤ i := by
        rw [ha.length, List.length_map]
        exact Nat.le_trans (List.length_filter_le _ _) (by rw [List.length_take]; omega)
      refine ⟨xs, ex D _ hx, Nat.lt_of_le_of_lt (show xs.length ≤ 40000 by omega) (by decide), Ex.mut (e.trans ex) hD, xs ++ [y], upd_same, ?_⟩
      rw [hid_upd, et, List.filter_append, List.map_append, List.filter_cons, if_pos hk]
      exact paired_app (ha.mono s (hid_mono ex)) (.cons hr .nil)
    · have ex : Ex H H4 := eY.trans e4
      refine ⟨e.trans ex, xs, ex D _ hx, ?_⟩
      rw [et, List.filter_append, List.map_append, List.filter_cons, if_neg (by rw [hk]; decide)]
      show All R (hid D H4) xs (_ ++ [])
      rw [List.append_nil]
      exact ha.mono s (hid_mono ex)
  · obtain ⟨e, xs, hx, ha⟩ := h
    rw [List.take_length] at ha
    exact hd H e xs hx ha
/-- rows in a list, the list itself out of sight -/
def LsH (H : Hp) (l : Addr) (rows : List (List Int)) : Prop := ∃ ys, H l = some (.lst ys) ∧ All IsRw (hid l H) ys rows
def LsI (H : Hp) (l : Addr) (ds : List (Nat × Nat)) : Prop := Ls IsII H l (ds.map fun d => ((d.1 : Int), (d.2 : Int)))
theorem LsH.mono {H H' : Hp} {l : Addr} {rows : List (List Int)} (e : Ex H H') (h : LsH H l rows) : LsH H' l rows := by
  obtain ⟨ys, h1, h2⟩ := h
  exact ⟨ys, e _ _ h1, h2.mono sst_Rw (hid_mono e)⟩
def swapL (l : List (List Int)) (i j : Nat) : List (List Int) := (l.set i (l.getD j [])).set j (l.getD i [])
def foundIn (l : List (List Int)) (at' c : Nat) : List Nat := ((List.range (l.length - at')).map fun i => at' + i).filter fun k => !decide ((l.getD k []).getD c 0 = 0)
def clearAll (l : List (List Int)) (at' c : Nat) : List (List Int) := l.zipIdx.map fun d => if d.2 = at' then d.1 else clearedRow d.1 (l.getD at' []) c
def stepCol (st : List (List Int) × List (Nat × Nat)) (c : Nat) : List (List Int) × List (Nat × Nat) :=
  match foundIn st.1 st.2.length c with
  | [] => st
  | f :: _ => (clearAll (swapL st.1 st.2.length f) st.2.length c, st.2 ++ [(st.2.length, c)])
def reduce (rows : List (List Int)) : Nat → List (List Int) × List (Nat × Nat)
  | 0 => (rows, [])
  | c + 1 => stepCol (reduce rows c) c
theorem paired_set {γ δ : Type} {F : γ → δ → Prop} {x : γ} {d : δ} (h : F x d) : ∀ {l : List γ} {m : List δ} (i : Nat), Paired F l m → Paired F (l.set i x) (m.set i d)
  | _, _, _, .nil => .nil
  | _, _, 0, .cons _ t => .cons h t
  | _, _, i + 1, .cons r t => .cons r (paired_set h i t)
def bn : Nat → Nat
  | 0 => 7
  | c + 1 => 2 * bn c + 1
/-- rows of one length, so wide -/
structure Rws (L n : Nat) (rows : List (List Int)) : Prop where
  len : ∀ r ∈ rows, r.length = L
  bnd : ∀ r ∈ rows, RowB n r
theorem Rws.swap {L n i j : Nat} {rows : List (List Int)} (h : Rws L n rows) (hi : i < rows.length) (hj : j < rows.length) : Rws L n (swapL rows i j) := by
  have mem : ∀ r ∈ swapL rows i j, r ∈ rows := fun r hr => by
    unfold swapL at hr
    rcases List.mem_or_eq_of_mem_set hr with q | q
    · rcases List.mem_or_eq_of_mem_set q with q | q
      · exact q
      · rw [q]
        simp only [List.getD, List.getElem?_eq_getElem hj, Option.getD_some]
        exact List.getElem_mem hj
    · rw [q]
      simp only [List.getD, List.getElem?_eq_getElem hi, Option.getD_some]
      exact List.getElem_mem hi
  exact ⟨fun r hr => h.len r (mem r hr), fun r hr => h.bnd r (mem r hr)⟩
theorem Rws.clear {L n i c : Nat} {rows : List (List Int)} (h : Rws L n rows) (hn : 1 ≤ n) (hi : i < rows.length) : Rws L (2 * n + 1) (clearAll rows i c) := by
  have hhd : rows.getD i [] ∈ rows := by
    simp only [List.getD, List.getElem?_eq_getElem hi, Option.getD_some]
    exact List.getElem_mem hi
  refine ⟨fun r hr => ?_, fun r hr => ?_⟩
  · obtain ⟨d, hd, rfl⟩ := List.mem_map.mp hr
    have hd1 := (List.mem_zipIdx' hd)
    have hm : d.1 ∈ rows := by rw [hd1.2]; exact List.getElem_mem _
    split
    · exact h.len _ hm
    · rw [clearedRow_len (by rw [h.len _ hm, h.len _ hhd])]
      exact h.len _ hm
  · obtain ⟨d, hd, rfl⟩ := List.mem_map.mp hr
    have hd1 := (List.mem_zipIdx' hd)
    have hm : d.1 ∈ rows := by rw [hd1.2]; exact List.getElem_mem _
    split
    · exact fun x hx => (h.bnd _ hm x hx).mono (by omega)
    · exact clearedRow_bnd hn (h.bnd _ hm) (h.bnd _ hhd)
theorem swapL_len (rows : List (List Int)) (i j : Nat) : (swapL rows i j).length = rows.length := by simp [swapL]
theorem clearAll_len (rows : List (List Int)) (i c : Nat) : (clearAll rows i c).length = rows.length := by simp [clearAll]
theorem foundIn_mem {l : List (List Int)} {a c k : Nat} (h : k ∈ foundIn l a c) : a ≤ k ∧ k < l.length ∧ (l.getD k []).getD c 0 ≠ 0 := by
  unfold foundIn at h
  obtain ⟨h1, h2⟩ := List.mem_filter.mp h
  obtain ⟨i, hi, rfl⟩ := List.mem_map.mp h1
  have := List.mem_range.mp hi
  refine ⟨by omega, by omega, ?_⟩
  simpa using h2
theorem bn_pos (c : Nat) : 7 ≤ bn c := by
  induction c with
  | zero => exact Nat.le_refl _
  | succ c ih => unfold bn; omega
theorem bn_mono (c : Nat) : bn c ≤ bn (c + 1) := by
  show bn c ≤ 2 * bn c + 1
  omega
theorem stepCol_ok {L n c : Nat} {st : List (List Int) × List (Nat × Nat)} (h : Rws L n st.1) (hn : 1 ≤ n) : Rws L (2 * n + 1) (stepCol st c).1 ∧ (stepCol st c).1.length = st.1.length ∧ (stepCol st c).2.length ≤ st.2.length + 1 := by
  unfold stepCol
  cases hf : foundIn st.1 st.2.length c with
  | nil => exact ⟨⟨h.len, fun r hr x hx => (h.bnd r hr x hx).mono (by omega)⟩, rfl, Nat.le_succ _⟩
  | cons f fs =>
    obtain ⟨f1, f2, f3⟩ := foundIn_mem (l := st.1) (a := st.2.length) (c := c) (k := f) (by rw [hf]; exact List.mem_cons_self ..)
    have hs := h.swap (i := st.2.length) (j := f) (by omega) f2
    refine ⟨hs.clear hn (by rw [swapL_len]; omega), by show (clearAll _ _ _).length = _; rw [clearAll_len, swapL_len], by show (st.2 ++ [(st.2.length, c)]).length ≤ _; rw [List.length_append]; exact Nat.le_refl _⟩
theorem reduce_ok {L : Nat} {rows : List (List Int)} (h : Rws L 7 rows) : ∀ c, Rws L (bn c) (reduce rows c).1 ∧ (reduce rows c).1.length = rows.length ∧ (reduce rows c).2.length ≤ c
  | 0 => ⟨h, rfl, Nat.le_refl _⟩
  | c + 1 => by
    obtain ⟨h1, h2, h3⟩ := reduce_ok h c
    obtain ⟨q1, q2, q3⟩ := stepCol_ok (c := c) h1 (by have := bn_pos c; omega)
    exact ⟨q1, by show (stepCol _ _).1.length = _; rw [q2, h2], by show (stepCol _ _).2.length ≤ _; omega⟩
theorem refs_of {H : Hp} : ∀ {zs : List V} {ds : List (Int × Int)}, All IsII H zs ds → ∀ z ∈ zs, ∃ t, z = .ref t
  | _, _, .nil => fun _ h => nomatch h
  | _, _, .cons ⟨t, e, _⟩ r => fun z hz => by
    rcases List.mem_cons.mp hz with rfl | hz
    · exact ⟨t, e⟩
    · exact refs_of r z hz
/-- rows stay while a list of references is written -/
theorem rows_upd {H : Hp} {D ld : Addr} {zs : List V} {o : HO} (hz : H ld = some (.lst zs)) (hr : ∀ z ∈ zs, ∃ t, z = .ref t) : ∀ {ws : List V} {rows : List (List Int)}, All IsRw (hid D H) ws rows → (∀ r ∈ rows, 1 ≤ r.length) → All IsRw (hid D (upd H ld o)) ws rows
  | _, _, .nil, _ => .nil
  | _, r :: _, .cons ⟨a, e, ha⟩ t, hl => by
    refine .cons ⟨a, e, ?_⟩ (rows_upd hz hr t fun r hr => hl r (List.mem_cons_of_mem _ hr))
    have hr1 := hl r (List.mem_cons_self ..)
    have na : a ≠ ld := fun ee => by
      have q := hid_ex D _ _ _ ha
      rw [ee, hz] at q
      injection q with q
      injection q with q
      cases r with
      | nil => simp at hr1
      | cons x r =>
        obtain ⟨t, ht⟩ := hr (V.int x) (by rw [q]; simp)
        cases ht
    by_cases nD : a = D
    · rw [nD] at ha
      unfold hid at ha
      rw [if_pos rfl] at ha
      cases ha
    · rw [hid_ne nD, upd_ne na]
      rw [hid_ne nD] at ha
      exact ha
def spReduced : Sp := fun vs H Q _ => ∃ (a : Addr) (m L : Nat) (rows : List (List Int)), vs = [.ref a, .int m] ∧ Ls IsRw H a rows ∧ m ≤ 4 ∧ m < L ∧ L ≤ 100 ∧ rows.length ≤ 100 ∧ (∀ r ∈ rows, r.length = L) ∧ Rws L 7 rows ∧
  ∀ t l ld H', Ex H H' → H' t = some (.tup [.ref l, .ref ld]) → LsH H' l (reduce rows m).1 → LsI H' ld (reduce rows m).2 → Q (.ref t) H'
section
variable {P : Program} {w : World} {K : PySem.W.Frag} {mg : Str → Option Value} {base : Heap}
theorem sc_cleared_row : FnScope ["row", "head", "column", "entry", "other"] ["row", "head", "column"] (defScope s_cleared_row) := C8.fnScope_by (by decide +kernel)
theorem cal_cleared_row (T : Txt mg) (D : Dfn K mg "cleared_row" s_cleared_row ["row", "head", "column"] []) : Cal P w K mg base (1) "cleared_row" (spCleared) [] := by
  have nd := sc_cleared_row.nd
  refine D.cal sc_cleared_row (fun vs H Q E h => by obtain ⟨v, h, c, r, hd, n, rfl, hv, hh, hc, hl, hl2, hn, hn2, hb1, hb2, hQ⟩ := h; rfl) (fun f cdv A outer s H vs Q E hr h => ?_)
  obtain ⟨v, h, c, r, hd, n, rfl, hv, hh, hc, hl, hl2, hn, hn2, hb1, hb2, hQ⟩ := h
  refine ⟨_, (pss_cons (ps_if (pt_cmpR op_eq (pe_ix (kix_list K) (pv 0) (pv 2) (fun _ _ => rfl)) pe_int (nomark _)) (pss_one (ps_ret (pe_callTy (klist_of K) rfl T.b_list (by decide +kernel) (pa_cons (pv 0) pa_nil)))) pss_nil)
      (pss_one (ps_ret (pe_lc rfl nd (kpi_zip K rfl T.b_zip (pa_cons (pv 0) (pa_cons (pv 1) pa_nil))) (blkOk_by (own := [("entry", 3), ("other", 4)]) (N := ["row", "head", "column", "entry", "other"]) (sc := defScope s_cleared_row) (by decide +kernel)) (fun _ _ _ _ _ => (kpg_tup K 2 rfl (pgs_cons (pg_name (i := 3) nd rfl (Or.inl rfl)) (pgs_cons (pg_name (i := 4) nd rfl (Or.inl rfl)) pgs_nil)))) (fun _ _ _ _ _ => pts_nil) (fun _ _ _ _ _ => (pe_op op_sub (pe_op op_mulW (pv 3) (pe_ix (kix_list K) (pv 1) (pv 2) (fun _ _ => rfl))) (pe_op op_mulW (pe_ix (kix_list K) (pv 0) (pv 2) (fun _ _ => rfl)) (pv 4)))))))), ?_⟩
  obtain ⟨a, rfl, ha⟩ := hv
  obtain ⟨b, rfl, hb⟩ := hh
  refine ⟨_, rfl, _, rfl, a, _, c, _, rfl, rfl, SqL.of ha, at_L hc, rfl, _, rfl, ?_⟩
  have ev : decide (V.int (r.getD c 0) = V.int 0) = decide (r.getD c 0 = 0) := by
    rw [Bool.eq_iff_iff, decide_eq_true_iff, decide_eq_true_iff]
    exact ⟨fun h => V.int.inj h, fun h => congrArg V.int h⟩
  rw [ev]
  cases hz : decide (r.getD c 0 = 0) with
  | true =>
    have hz := of_decide_eq_true hz
    refine iteT ⟨_, rfl, a, _, rfl, .inl (SqL.of ha), fun l hl => hQ l _ hl (Ex.new hl) ?_⟩
    rw [upd_same]
    unfold clearedRow
    rw [if_pos hz]
  | false =>
    have hz := of_decide_eq_false hz
    refine iteF ⟨_, rfl, _, rfl, a, b, _, _, rfl, SqL.of ha, SqL.of hb, fun D hD => lc_data (r.zip hd) (fun _ => true) IsI (fun d => d.1 * hd.getD c 0 - r.getD c 0 * d.2) (Y := YPair (fun i => (r.map V.int)[i]?) (fun i => (hd.map V.int)[i]?)) (G := fun H => SqL K H a (r.map V.int) ∧ SqL K H b (hd.map V.int)) (walk_zip (by rw [List.length_zip, List.length_map, List.length_map])) tst_I (by rw [List.length_zip]; omega) hD (fun H e => ⟨SqL.of (e _ _ ha), SqL.of (e _ _ hb)⟩) (fun i x H H' h => by obtain ⟨T1, y1, y2, _, hT, rfl, _⟩ := h; exact Ex.new hT) (fun j d z H9 H5 hd' e5 hz' Ky Kn k1 k2 => ?_) (fun H5 e5 hLs => ?_)⟩
    · obtain ⟨T1, y1, y2, rfl, hT, rfl, q1, q2⟩ := hz'
      have q1 : (r.map V.int)[j]? = some y1 := q1
      have q2 : (hd.map V.int)[j]? = some y2 := q2
      obtain ⟨h1, h2⟩ := List.getElem?_zip_eq_some.mp hd'
      rw [List.getElem?_map, h1] at q1
      rw [List.getElem?_map, h2] at q2
      obtain rfl := Option.some.inj q1
      obtain rfl := Option.some.inj q2
      have eT := e5.trans (Ex.new (o := .tup [.int d.1, .int d.2]) hT)
      have b1 := hb1 d.1 (List.mem_of_getElem? h1)
      have b2 := hb2 d.2 (List.mem_of_getElem? h2)
      refine ⟨T1, _, rfl, SqT.of upd_same, rfl, _, _, rfl, _, _, rfl, rfl, rfl, ?_⟩
      refine ⟨_, rfl, _, rfl, _, rfl, b, _, c, _, rfl, rfl, SqL.of (eT _ _ hb), at_L (by omega), _, _, rfl, rfl, b1.mulW (hb2.getD hn c) (by omega), ?_⟩
      refine ⟨_, rfl, _, rfl, a, _, c, _, rfl, rfl, SqL.of (eT _ _ ha), at_L hc, _, rfl, _, _, rfl, rfl, (hb1.getD hn c).mulW b2 (by omega), _, _, rfl, rfl, k1 rfl _ _ (Ex.refl _) rfl⟩
    · rw [filter_all] at hLs
      have hLi := ls_I hLs
      refine hQ D H5 hD e5 ?_
      rw [hLi]
      unfold clearedRow
      rw [if_neg hz]
theorem sc_reduced_rows : FnScope ["rows", "many", "left", "leads", "column", "at", "found", "row", "head", "k"] ["rows", "many"] (defScope s_reduced_rows) := C8.fnScope_by (by decide +kernel)
theorem cal_reduced_rows (T : Txt mg) (D : Dfn K mg "reduced_rows" s_reduced_rows ["rows", "many"] [])
    (C_cleared_row : Cal P w K mg base 1 "cleared_row" spCleared []) : Cal P w K mg base (2) "reduced_rows" (spReduced) [] := by
  have nd := sc_reduced_rows.nd
  refine D.cal sc_reduced_rows (fun vs H Q E h => by obtain ⟨a, m, L, rows, rfl, hL, hm, hml, hL100, hrl, hrn, hb, hQ⟩ := h; rfl) (fun f cdv A outer s H vs Q E hr h => ?_)
  obtain ⟨a, m, L, rows, rfl, hL, hm, hml, hL100, hrl, hrn, hb, hQ⟩ := h
  have hu64 := room64 hr
  refine ⟨_, (pss_cons (ps_set (i := 2) nd rfl (Or.inr rfl) (pe_lc rfl nd (kpi_list K (pv 0)) (blkOk_by (own := [("row", 7)]) (N := ["rows", "many", "left", "leads", "column", "at", "found", "row", "head", "k"]) (sc := defScope s_reduced_rows) (by decide +kernel)) (fun _ _ _ _ _ => (pg_name (i := 7) nd rfl (Or.inl rfl))) (fun _ _ _ _ _ => pts_nil) (fun _ _ _ _ _ => (pe_callTy (klist_of K) rfl T.b_list (by decide +kernel) (pa_cons (pv 7) pa_nil)))))
      (pss_cons (ps_set (i := 3) nd rfl (Or.inl rfl) (pe_lst pa_nil))
      (pss_cons (ps_for PassesOwn.never rfl (pi_range1 rfl T.b_range (pa_cons (pv 1) pa_nil)) (pg_name (i := 4) nd rfl (Or.inr rfl)) (pss_cons (ps_set (i := 5) nd rfl (Or.inr rfl) (pe_callB (klen K) rfl T.b_len PySem.boot_len (pa_cons (pv 3) pa_nil)))
      (pss_cons (ps_setLc (i := 6) rfl nd rfl rfl (sw_true rfl rfl rfl (by decide +kernel)) (pi_range2 rfl T.b_range (pa_cons (pv 5) (pa_cons (pe_callB (klen K) rfl T.b_len PySem.boot_len (pa_cons (pv 2) pa_nil)) pa_nil))) (blkOk_by (own := [("k", 9)]) (N := ["rows", "many", "left", "leads", "column", "at", "found", "row", "head", "k"]) (sc := defScope s_reduced_rows) (by decide +kernel)) (fun _ _ _ _ _ => (pg_name (i := 9) nd rfl (Or.inl rfl))) (fun _ _ _ _ _ => (pts_one (pt_cmpR op_ne (pe_ix (kix_list K) (pe_ix (kix_list K) (pv 2) (pv 9) (fun _ _ => rfl)) (pv 4) (fun _ _ => rfl)) pe_int (nomark _)))) (fun _ _ _ _ _ => (pv 9)))
      (pss_one (ps_if (pt_cmpR (kneD K hu64) (pv 6) (pe_lst pa_nil) (nomark _)) (pss_cons (ps_asg (pe_tup (pa_cons (pe_ix (kix_list K) (pv 2) (pe_ix (kix_list K) (pv 6) pe_int (fun _ _ => rfl)) (fun _ _ => rfl)) (pa_cons (pe_ix (kix_list K) (pv 2) (pv 5) (fun _ _ => rfl)) pa_nil))) (kpg_tup K 2 rfl (pgs_cons (pg_sub (pv 2) (pv 5) set_list) (pgs_cons (pg_sub (pv 2) (pe_ix (kix_list K) (pv 6) pe_int (fun _ _ => rfl)) set_list) pgs_nil))))
      (pss_cons (ps_set (i := 8) nd rfl (Or.inr rfl) (pe_ix (kix_list K) (pv 2) (pv 5) (fun _ _ => rfl)))
      (pss_cons (ps_set (i := 2) nd rfl (Or.inr rfl) (pe_lc rfl nd (kpi_enum K rfl T.b_enumerate (pa_cons (pv 2) pa_nil)) (blkOk_by (own := [("k", 9), ("row", 7)]) (N := ["rows", "many", "left", "leads", "column", "at", "found", "row", "head", "k"]) (sc := defScope s_reduced_rows) (by decide +kernel)) (fun _ _ _ _ _ => (kpg_tup K 2 rfl (pgs_cons (pg_name (i := 9) nd rfl (Or.inl rfl)) (pgs_cons (pg_name (i := 7) nd rfl (Or.inl rfl)) pgs_nil)))) (fun _ _ _ _ _ => pts_nil) (fun _ _ _ _ _ => (pe_ifExp (pt_cmpR op_eq (pv 9) (pv 5) (nomark _)) (pv 7) (pe_c C_cleared_row hr (by decide) rfl (pa_cons (pv 7) (pa_cons (pv 8) (pa_cons (pv 4) pa_nil))))))))
      (pss_one (ps_expr (kpe_bm K PySem.F.plainAttrs_list PySem.F.slot_list_append PySem.F.type_list_append mt_append (pv 3) (pa_cons (pe_tup (pa_cons (pv 5) (pa_cons (pv 4) pa_nil))) pa_nil))))))) pss_nil)))))
      (pss_one (ps_ret (pe_tup (pa_cons (pv 2) (pa_cons (pv 3) pa_nil)))))))), ?_⟩
  obtain ⟨xs, ha, hxs⟩ := hL
  have hxl := hxs.length
  refine ⟨_, rfl, a, rfl, ⟨xs, SqL.of ha⟩, fun D hD => lc_data3 rows (fun _ => true) IsRw (fun r => r) (Y := YAt xs) (G := fun H => SqL K H a xs) (by have z := walk_list (K := K) (a := a) (xs := xs); rw [hxl] at z; exact z) sst_Rw (by omega) hD (fun H e => SqL.of (e _ _ ha)) (fun i x H H' h => h.1 ▸ Ex.refl H) (fun j r y H9 H5 ys hr' e5 hDy hy Ky Kn k1 k2 => ?_) (fun H5 e5 ys hD5 hys => ?_)⟩
  · obtain ⟨rfl, hyj⟩ := hy
    obtain ⟨r', hr2, b, rfl, hb2⟩ := paired_of hxs hyj
    obtain rfl := Option.some.inj (hr2.symm.trans hr')
    refine ⟨rfl, _, rfl, b, _, rfl, .inl (SqL.of (e5 _ _ hb2)), fun l hl => k1 rfl _ _ (Ex.new hl) ⟨l, rfl, ?_⟩⟩
    have : l ≠ D := fun e => by rw [e, hDy] at hl; cases hl
    rw [hid_ne this, upd_same]
  · rw [filter_all, List.map_id'] at hys
    have hDf : H D = none := hD
    refine ⟨by show 0 ≤ sizeLine; decide, fun ld hld => ?_⟩
    have e6 : Ex H5 (upd H5 ld (.lst [])) := Ex.new hld
    have hldf : H ld = none := Evl.fresh_back e5 hld
    refine ⟨_, rfl, (m : Int), rfl, by omega, by omega, for_it walk_range (fun c σ H' => Ex H H' ∧ ∃ l x4 x5 x6 x7 x8 x9, σ = [some (.ref a), some (.int m), some (.ref l), some (.ref ld), x4, x5, x6, x7, x8, x9] ∧ H l = none ∧ LsH H' l (reduce rows c).1 ∧ LsI H' ld (reduce rows c).2 ∧ l ≠ ld) ⟨e5.trans e6, D, _, _, _, _, _, _, rfl, hDf, ⟨ys, e6 _ _ hD5, hys.mono sst_Rw (hid_mono e6)⟩, ⟨[], upd_same, .nil⟩, ne_of_none hD5 hld⟩ (fun c σ H' _ h => trivial) (fun c x σ H9 H' hc h hy => ?_) (fun σ H' h => ?_)⟩
    · obtain ⟨e, l, x4, x5, x6, x7, x8, x9, rfl, hlf, ⟨ys, hl1, hys⟩, ⟨zs, hld1, hzs⟩, hlld⟩ := h
      obtain ⟨rfl, rfl⟩ := hy
      have hcm : c < m := by omega
      obtain ⟨hR1, hR2, hR3⟩ := reduce_ok hb c
      have hbp := bn_pos c
      have hbn : bn c ≤ 127 := by
        have : c = 0 ∨ c = 1 ∨ c = 2 ∨ c = 3 := by omega
        rcases this with h | h | h | h <;> subst h <;> decide
      have hred : reduce rows (c + 1) = stepCol (reduce rows c) c := rfl
      generalize reduce rows c = st at hys hzs hR1 hR2 hR3 hred
      have hyl := hys.length
      have hzl := hzs.length
      rw [List.length_map] at hzl
      have hrow : ∀ (H2 : Hp), Ex H' H2 → ∀ k, k < st.1.length → ∃ b, ys[k]? = some (.ref b) ∧ H2 b = some (.lst ((st.1.getD k []).map V.int)) ∧ (st.1.getD k []).length = L ∧ RowB (bn c) (st.1.getD k []) := fun H2 e2 k hk => by
        have hg : st.1[k]? = some (st.1.getD k []) := by simp [List.getD, List.getElem?_eq_getElem hk]
        obtain ⟨x, hx, b, rfl, hb⟩ := paired_at hys hg
        exact ⟨b, hx, e2 _ _ (hid_ex l _ _ _ hb), hR1.len _ (List.mem_of_getElem? hg), hR1.bnd _ (List.mem_of_getElem? hg)⟩
      refine ⟨_, rfl, ld, zs, rfl, .inl (SqL.of hld1), ?_⟩
      refine ⟨_, rfl, _, rfl, l, ys, rfl, .inl (SqL.of hl1), ((zs.length : Nat) : Int), ((ys.length : Nat) : Int), rfl, by omega, fun F hF => lc_data ((List.range (st.1.length - st.2.length)).map fun i => st.2.length + i) (fun k => !decide ((st.1.getD k []).getD c 0 = 0)) IsI (fun k => (k : Int)) (Y := YFn fun i => .int (((zs.length : Nat) : Int) + i)) (G := fun _ => True) (by have z := walk_range (lo := ((zs.length : Nat) : Int)) (n := (((ys.length : Nat) : Int) - ((zs.length : Nat) : Int)).toNat); rw [show (((ys.length : Nat) : Int) - ((zs.length : Nat) : Int)).toNat = ((List.range (st.1.length - st.2.length)).map fun i => st.2.length + i).length by rw [List.length_map, List.length_range]; omega] at z ⊢; exact z) tst_I (by rw [List.length_map, List.length_range]; omega) hF (fun H e => trivial) (fun i x H H' h => h.1 ▸ Ex.refl H) (fun j k y H9 H5 hk e5 hy Ky Kn k1 k2 => ?_) (fun H5 e5 hFs => ?_)⟩
      · obtain ⟨rfl, rfl⟩ := hy
        have hjl : j < st.1.length - st.2.length := by
          have := (List.getElem?_eq_some_iff.mp hk).1
          rw [List.length_map, List.length_range] at this
          exact this
        have hkj : k = st.2.length + j := by
          rw [List.getElem?_map, List.getElem?_range hjl] at hk
          exact (Option.some.inj hk).symm
        have hvk : (((zs.length : Nat) : Int) + (j : Nat)) = (k : Int) := by omega
        obtain ⟨b, hb1, hb2, hb3, hb4⟩ := hrow _ e5 k (by omega)
        show _ ∧ _
        refine ⟨rfl, _, rfl, _, rfl, l, ys, ((zs.length : Nat) : Int) + (j : Nat), .ref b, rfl, rfl, SqL.of (e5 _ _ hl1), by rw [hvk]; exact atI_nat hb1, _, rfl, b, _, (0 + (c : Nat) : Int), .int ((st.1.getD k []).getD c 0), rfl, rfl, SqL.of hb2, by rw [show (0 : Int) + (c : Nat) = (c : Nat) by omega]; exact at_L (by omega), rfl, _, rfl, ?_⟩
        have ev : (!decide (V.int ((st.1.getD k []).getD c 0) = V.int 0)) = !decide ((st.1.getD k []).getD c 0 = 0) := by
          congr 1
          rw [Bool.eq_iff_iff, decide_eq_true_iff, decide_eq_true_iff]
          exact ⟨fun h => V.int.inj h, fun h => congrArg V.int h⟩
        rw [ev]
        cases hg : (!decide ((st.1.getD k []).getD c 0 = 0)) with
        | true => exact iteT ⟨_, rfl, k1 hg _ _ (Ex.refl _) (congrArg V.int hvk)⟩
        | false => exact iteF (k2 hg _ (Ex.refl _))
      · have hFs : Ls IsI H5 F ((foundIn st.1 st.2.length c).map fun k : Nat => (k : Int)) := hFs
        refine ⟨_, rfl, by show 0 ≤ sizeLine; decide, fun b1 hb1 => ?_⟩
        have eb1 := Ex.new (o := .lst []) hb1
        refine ne_nil enc_I (hFs.mono tst_I.sst eb1) upd_same ⟨_, rfl, ?_⟩
        have hF2 := ls_I (hFs.mono tst_I.sst eb1)
        have e6 := e5.trans eb1
        generalize upd H5 b1 (.lst []) = H6 at hF2 e6
        cases hfd : foundIn st.1 st.2.length c with
        | nil =>
          refine iteF ⟨e.trans e6, l, _, _, _, _, _, _, rfl, hlf, ?_, ?_, hlld⟩
          · rw [hred]
            unfold stepCol
            rw [hfd]
            exact LsH.mono e6 ⟨ys, hl1, hys⟩
          · rw [hred]
            unfold stepCol
            rw [hfd]
            exact Ls.mono tst_II.sst e6 ⟨zs, hld1, hzs⟩
        | cons f fs =>
          obtain ⟨f1, f2, f3⟩ := foundIn_mem (l := st.1) (a := st.2.length) (c := c) (k := f) (by rw [hfd]; exact List.mem_cons_self ..)
          rw [hfd] at hF2
          refine iteT ?_
          have hlat : st.2.length < st.1.length := by omega
          obtain ⟨bf, hbf1, hbf2, _⟩ := hrow _ e6 f f2
          obtain ⟨ba, hba1, hba2, _⟩ := hrow _ e6 st.2.length hlat
          have hl6 := e6 _ _ hl1
          refine ⟨_, rfl, _, rfl, F, _, 0, .int f, rfl, rfl, SqL.of hF2, atI_nat (j := 0) rfl, l, ys, (f : Int), .ref bf, rfl, rfl, SqL.of hl6, atI_nat hbf1, ?_⟩
          refine ⟨_, rfl, _, rfl, l, ys, ((zs.length : Nat) : Int), .ref ba, rfl, rfl, SqL.of hl6, by rw [hzl]; exact atI_nat hba1, by show 2 ≤ sizeLine; decide, fun t ht => ?_⟩
          have e7 : Ex H6 (upd H6 t (.tup [.ref bf, .ref ba])) := Ex.new ht
          have hl7 := e7 _ _ hl6
          have nt : l ≠ t := ne_of_none hl6 ht
          have ixa : ∀ n, n = ys.length → ixN n ((zs.length : Nat) : Int) = some st.2.length := fun n hn => by
            unfold ixN
            rw [if_pos (by omega), if_pos (by omega)]
            rw [Int.toNat_natCast, hzl]
          have ixf : ∀ n, n = ys.length → ixN n ((f : Nat) : Int) = some f := fun n hn => by
            unfold ixN
            rw [if_pos (by omega), if_pos (by omega)]
            rw [Int.toNat_natCast]
          have hh0 : All IsRw (hid l H6) ys st.1 := hys.mono sst_Rw (hid_mono e6)
          have hh7 : All IsRw (hid l (upd H6 t (.tup [.ref bf, .ref ba]))) ys st.1 := hh0.mono sst_Rw (hid_mono e7)
          have hF7 := e7 _ _ hF2
          have hga : st.1[st.2.length]? = some (st.1.getD st.2.length []) := by simp [List.getD, List.getElem?_eq_getElem hlat]
          have hgf : st.1[f]? = some (st.1.getD f []) := by simp [List.getD, List.getElem?_eq_getElem f2]
          have e17 := e.trans (e6.trans e7)
          have hbf7 := e7 _ _ hbf2
          have hba7 := e7 _ _ hba2
          have hld7 := (e6.trans e7) _ _ hld1
          have hzs7 := hzs.mono tst_II.sst (e6.trans e7)
          have ht7 : (upd H6 t (.tup [.ref bf, .ref ba])) t = some (.tup [.ref bf, .ref ba]) := upd_same
          have hFl : F ≠ l := by
            intro ee
            have hFn : H' F = none := hF
            rw [ee, hl1] at hFn
            cases hFn
          generalize upd H6 t (.tup [.ref bf, .ref ba]) = H7 at e7 hl7 hh7 hF7 e17 hbf7 hba7 hld7 hzs7 ht7
          have hxa : ∃ x, ys[st.2.length]? = some x ∧ IsRw (hid l H7) x (st.1.getD st.2.length []) := by
            obtain ⟨x, hx1, hx2⟩ := paired_at hh7 hga
            exact ⟨x, hx1, hx2⟩
          have hxf : ∃ x, ys[f]? = some x ∧ IsRw (hid l H7) x (st.1.getD f []) := by
            obtain ⟨x, hx1, hx2⟩ := paired_at hh7 hgf
            exact ⟨x, hx1, hx2⟩
          obtain ⟨xa, hxa1, hxa2⟩ := hxa
          obtain ⟨xf, hxf1, hxf2⟩ := hxf
          obtain rfl := Option.some.inj (hxa1.symm.trans hba1)
          obtain rfl := Option.some.inj (hxf1.symm.trans hbf1)
          have hsw : All IsRw (hid l H7) ((ys.set st.2.length (.ref bf)).set f (.ref ba)) (swapL st.1 st.2.length f) := paired_set hxa2 f (paired_set hxf2 st.2.length hh7)
          -- the swap
          refine ⟨t, _, rfl, SqT.of ht7, rfl, _, _, rfl, ?_⟩
          refine ⟨_, rfl, _, rfl, l, ys, _, st.2.length, rfl, rfl, hl7, ixa _ rfl, ?_⟩
          have hF8 : (upd H7 l (.lst (ys.set st.2.length (.ref bf)))) F = some (.lst ((f :: fs).map fun k : Nat => V.int (k : Int))) := by
            rw [upd_ne hFl, hF7, List.map_map]
            rfl
          refine ⟨_, _, rfl, ?_⟩
          have hlen1 : (ys.set st.2.length (V.ref bf)).length = ys.length := List.length_set
          refine ⟨_, rfl, _, rfl, F, _, 0, .int f, rfl, rfl, SqL.of hF8, atI_nat (j := 0) rfl, l, _, _, f, rfl, rfl, upd_same, ixf _ hlen1, rfl, ?_⟩
          rw [upd_upd]
          have hid8 : hid l (upd H7 l (.lst ((ys.set st.2.length (.ref bf)).set f (.ref ba)))) = hid l H7 := hid_upd
          have hsw8 : All IsRw (hid l (upd H7 l (.lst ((ys.set st.2.length (.ref bf)).set f (.ref ba))))) ((ys.set st.2.length (.ref bf)).set f (.ref ba)) (swapL st.1 st.2.length f) := by rw [hid8]; exact hsw
          have e18 : Ex H (upd H7 l (.lst ((ys.set st.2.length (.ref bf)).set f (.ref ba)))) := Ex.mut e17 hlf
          have hl8 : (upd H7 l (.lst ((ys.set st.2.length (.ref bf)).set f (.ref ba)))) l = some (.lst ((ys.set st.2.length (.ref bf)).set f (.ref ba))) := upd_same
          have hld8 : (upd H7 l (.lst ((ys.set st.2.length (.ref bf)).set f (.ref ba)))) ld = some (.lst zs) := by rw [upd_ne hlld.symm]; exact hld7
          have hzs8 : All IsII (upd H7 l (.lst ((ys.set st.2.length (.ref bf)).set f (.ref ba)))) zs (st.2.map fun d => ((d.1 : Int), (d.2 : Int))) := hzs7.tmono tst_II (TEx.lst _ hl7)
          generalize hY2 : (ys.set st.2.length (.ref bf)).set f (.ref ba) = ys2 at hid8 hsw8 e18 hl8 hld8 hzs8
          generalize upd H7 l (.lst ys2) = H8 at hid8 hsw8 e18 hl8 hld8 hzs8
          have hy2l := hsw8.length
          rw [swapL_len] at hy2l
          have hR8 := hR1.swap hlat f2
          have hst2 : (stepCol st c) = (clearAll (swapL st.1 st.2.length f) st.2.length c, st.2 ++ [(st.2.length, c)]) := by
            unfold stepCol
            rw [hfd]
          have hswl := swapL_len st.1 st.2.length f
          generalize swapL st.1 st.2.length f = sw at hsw8 hy2l hR8 hst2 hswl
          have hrow8 : ∀ (H2 : Hp), Ex H8 H2 → ∀ k, k < sw.length → ∃ b, ys2[k]? = some (.ref b) ∧ H2 b = some (.lst ((sw.getD k []).map V.int)) ∧ (sw.getD k []).length = L ∧ RowB (bn c) (sw.getD k []) ∧ b ≠ l := fun H2 e2 k hk => by
            have hg : sw[k]? = some (sw.getD k []) := by simp [List.getD, List.getElem?_eq_getElem hk]
            obtain ⟨x, hx, b, rfl, hb⟩ := paired_at hsw8 hg
            refine ⟨b, hx, e2 _ _ (hid_ex l _ _ _ hb), hR8.len _ (List.mem_of_getElem? hg), hR8.bnd _ (List.mem_of_getElem? hg), fun ee => ?_⟩
            rw [ee] at hb
            unfold hid at hb
            rw [if_pos rfl] at hb
            cases hb
          obtain ⟨bh, hbh1, hbh2, hbh3, hbh4, _⟩ := hrow8 H8 (Ex.refl H8) st.2.length (by omega)
          -- the head
          refine ⟨_, rfl, _, rfl, l, ys2, ((zs.length : Nat) : Int), .ref bh, rfl, rfl, SqL.of hl8, by rw [hzl]; exact atI_nat hbh1, ?_⟩
          refine ⟨_, rfl, l, ys2, rfl, SqL.of hl8, fun D2 hD2 => lc_data3 sw.zipIdx (fun _ => true) IsRw (fun d => if d.2 = st.2.length then d.1 else clearedRow d.1 (sw.getD st.2.length []) c) (Y := YPair (fun i => some (.int (i : Nat))) (fun i => ys2[i]?)) (G := fun H => SqL K H l ys2) (by rw [List.length_zipIdx, hswl, ← hy2l]; exact walk_enum) sst_Rw (by rw [List.length_zipIdx]; omega) hD2 (fun H e => SqL.of (e _ _ hl8)) (fun i x H H' h => by obtain ⟨T1, y1, y2, _, hT, rfl, _⟩ := h; exact Ex.new hT) (fun j d y Hx H9 ws hd e9 hDw hy Ky Kn k1 k2 => ?_) (fun H9 e9 ws hDw hws => ?_)⟩
          · obtain ⟨T1, y1, y2, rfl, hT, rfl, q1, q2⟩ := hy
            obtain rfl := Option.some.inj q1
            have q2 : ys2[j]? = some y2 := q2
            have hj : j < sw.length := by
              have := (List.getElem?_eq_some_iff.mp hd).1
              rw [List.length_zipIdx] at this
              exact this
            rw [List.getElem?_zipIdx, List.getElem?_eq_getElem hj] at hd
            obtain rfl := Option.some.inj hd
            have hswj : sw.getD j [] = sw[j] := by simp [List.getD, List.getElem?_eq_getElem hj]
            have eT := Ex.new (o := .tup [.int (j : Nat), y2]) hT
            have e9T := e9.trans eT
            obtain ⟨bj, hbj1, hbj2, hbj3, hbj4, hbj5⟩ := hrow8 _ e9T j hj
            obtain rfl := Option.some.inj (hbj1.symm.trans q2)
            refine ⟨T1, _, rfl, SqT.of upd_same, rfl, _, _, rfl, _, _, rfl, rfl, rfl, ?_⟩
            refine ⟨_, rfl, _, rfl, rfl, _, rfl, ?_⟩
            have ev : decide (V.int (j : Nat) = V.int ((zs.length : Nat) : Int)) = decide (j = st.2.length) := by
              rw [hzl, Bool.eq_iff_iff, decide_eq_true_iff, decide_eq_true_iff]
              exact ⟨fun h => by have := V.int.inj h; omega, fun h => by rw [h]⟩
            rw [ev]
            cases hg : decide (j = st.2.length) with
            | true =>
              have hg := of_decide_eq_true hg
              refine iteT ⟨_, rfl, k1 rfl _ _ (Ex.refl _) ?_⟩
              simp only [Nat.zero_add, if_pos hg]
              have nb : bj ≠ D2 := by
                intro ee
                obtain ⟨b2, hb21, hb22, _⟩ := hrow8 H8 (Ex.refl H8) j hj
                rw [hbj1] at hb21
                cases hb21
                rw [ee, hD2] at hb22
                cases hb22
              refine ⟨bj, rfl, ?_⟩
              rw [hid_ne nb, hbj2, hswj]
            | false =>
              have hg := of_decide_eq_false hg
              refine iteF ?_
              obtain ⟨bh', hbh'1, hbh'2, _⟩ := hrow8 _ e9T st.2.length (by omega)
              obtain rfl : bh = bh' := by rw [hbh1] at hbh'1; cases hbh'1; rfl
              refine ⟨_, rfl, _, rfl, _, rfl, .ref bj, .ref bh, c, sw.getD j [], sw.getD st.2.length [], bn c, by show [V.ref bj, V.ref bh, V.int (0 + (c : Nat))] = _; rw [show (0 : Int) + (c : Nat) = (c : Nat) by omega], ⟨bj, rfl, hbj2⟩, ⟨bh, rfl, hbh'2⟩, by omega, by rw [hbj3, hbh3], by omega, by omega, by omega, hbj4, hbh4, fun pr H10 hpr e10 hpr2 => k1 rfl _ _ e10 ⟨pr, rfl, ?_⟩⟩
              have np : pr ≠ D2 := by
                intro ee
                have hDw' : (upd Hx T1 (.tup [.int (j : Nat), .ref bj])) D2 = some (.lst ws) := hDw
                rw [ee, hDw'] at hpr
                cases hpr
              simp only [Nat.zero_add, if_neg hg]
              rw [hid_ne np, hpr2, hswj]
          · have hws2 : All IsRw (hid D2 H9) ws (clearAll sw st.2.length c) := by
              rw [filter_all] at hws
              exact hws
            have hl9 := e9 _ _ hl8
            have hld9 := e9 _ _ hld8
            refine ⟨_, rfl, .inl ⟨rfl, _, SqL.of hld9⟩, _, rfl, _, rfl, by show 2 ≤ sizeLine; decide, fun t5 ht5 => ?_⟩
            have e10 := Ex.new (o := .tup [.int ((zs.length : Nat) : Int), .int (0 + (c : Nat))]) ht5
            have hld10 := e10 _ _ hld9
            have nD2ld : D2 ≠ ld := by
              intro ee
              rw [ee, hld8] at hD2
              cases hD2
            refine ⟨ld, zs, _, rfl, rfl, hld10, szl (by omega), Ex.mut (e18.trans (e9.trans e10)) hldf, D2, _, _, _, _, _, _, rfl, Evl.fresh_back e18 hD2, ?_, ?_, nD2ld⟩
            · rw [hred, hst2]
              refine ⟨ws, by rw [upd_ne nD2ld]; exact e10 _ _ hDw, ?_⟩
              have hRn := (hR8.clear (c := c) (i := st.2.length) (by omega) (by omega)).len
              exact rows_upd hld10 (refs_of hzs8) (hws2.mono sst_Rw (hid_mono e10)) (fun r hr => by rw [hRn r hr]; omega)
            · rw [hred, hst2]
              refine ⟨_, upd_same, ?_⟩
              have t8 := TEx.lst (.lst (zs ++ [.ref t5])) hld10
              show All IsII _ _ ((st.2 ++ [(st.2.length, c)]).map _)
              rw [List.map_append]
              refine paired_app ((hzs8.mono tst_II.sst (e9.trans e10)).tmono tst_II t8) (.cons ⟨t5, rfl, ?_⟩ .nil)
              refine t8 _ _ ?_
              rw [upd_same]
              show some (HO.tup [V.int ((zs.length : Nat) : Int), V.int (0 + (c : Nat))]) = some (HO.tup [V.int ((st.2.length : Nat) : Int), V.int ((c : Nat) : Int)])
              rw [hzl, show (0 : Int) + (c : Nat) = (c : Nat) by omega]
    · obtain ⟨e, l, x4, x5, x6, x7, x8, x9, rfl, hlf, hll, hlld, hne⟩ := h
      rw [show ((m : Int)).toNat = m by omega] at hll hlld
      refine ⟨_, rfl, _, rfl, by show 2 ≤ sizeLine; decide, fun t ht => ?_⟩
      have e9 := Ex.new (o := .tup [.ref l, .ref ld]) ht
      exact hQ t l ld _ (e.trans e9) upd_same (hll.mono e9) (Ls.mono tst_II.sst e9 hlld)
end
end K49

namespace K49
def ent (l : List (List Int)) (k j : Nat) : Int := (l.getD k []).getD j 0
theorem getD_eq {α : Type} {l : List α} {i : Nat} {d : α} (h : i < l.length) : l.getD i d = l[i] := by simp [List.getD, List.getElem?_eq_getElem h]
theorem ent_clear {l : List (List Int)} {a c k j L : Nat} (hl : ∀ r ∈ l, r.length = L) (ha : a < l.length) (hk : k < l.length) (hj : j < L) :
    ent (clearAll l a c) k j = if k = a then ent l a j else if ent l k c = 0 then ent l k j else ent l k j * ent l a c - ent l k c * ent l a j := by
  have hkl : k < (clearAll l a c).length := by rw [clearAll_len]; exact hk
  have e1 : (clearAll l a c).getD k [] = if k = a then l[k] else clearedRow l[k] (l.getD a []) c := by
    rw [getD_eq hkl]
    simp [clearAll]
  unfold ent
  rw [e1]
  by_cases h : k = a
  · subst h
    rw [if_pos rfl, if_pos rfl, getD_eq hk]
  · rw [if_neg h, if_neg h]
    have hk' : l.getD k [] = l[k] := getD_eq hk
    rw [hk']
    unfold clearedRow
    by_cases hz : l[k].getD c 0 = 0
    · rw [if_pos hz, if_pos hz]
    · rw [if_neg hz, if_neg hz]
      have h1 : j < l[k].length := by rw [hl _ (List.getElem_mem hk)]; exact hj
      have h2 : j < (l.getD a []).length := by rw [getD_eq ha, hl _ (List.getElem_mem ha)]; exact hj
      have h3 : j < ((l[k].zip (l.getD a [])).map fun d => d.1 * (l.getD a []).getD c 0 - l[k].getD c 0 * d.2).length := by
        rw [List.length_map, List.length_zip]
        omega
      rw [getD_eq h3]
      simp only [List.getElem_map, List.getElem_zip]
      rw [getD_eq h1, getD_eq h2]
theorem ent_swap {l : List (List Int)} {a f k j : Nat} (ha : a < l.length) (hf : f < l.length) (hk : k < l.length) : ent (swapL l a f) k j = ent l (if k = f then a else if k = a then f else k) j := by
  have hg : (swapL l a f)[k]? = l[if k = f then a else if k = a then f else k]? := by
    unfold swapL
    rw [List.getElem?_set, List.getElem?_set, List.length_set]
    by_cases h1 : f = k
    · rw [if_pos h1, if_pos (by omega), if_pos h1.symm, getD_eq ha, List.getElem?_eq_getElem ha]
    · rw [if_neg h1, if_neg (show ¬ k = f from fun e => h1 e.symm)]
      by_cases h2 : a = k
      · rw [if_pos h2, if_pos (by omega), if_pos h2.symm, getD_eq hf, List.getElem?_eq_getElem hf]
      · rw [if_neg h2, if_neg (show ¬ k = a from fun e => h2 e.symm)]
  unfold ent
  congr 1
  simp only [List.getD, hg]
structure Red (L c : Nat) (st : List (List Int) × List (Nat × Nat)) : Prop where
  len : ∀ r ∈ st.1, r.length = L
  few : st.2.length ≤ st.1.length
  at' : ∀ (i : Nat) (d : Nat × Nat), st.2[i]? = some d → d.1 = i ∧ d.2 < c
  piv : ∀ d ∈ st.2, ent st.1 d.1 d.2 ≠ 0
  zer : ∀ d ∈ st.2, ∀ k, k < st.1.length → k ≠ d.1 → ent st.1 k d.2 = 0
  low : ∀ k, st.2.length ≤ k → k < st.1.length → ∀ j, j < c → ent st.1 k j = 0
theorem foundIn_nil {l : List (List Int)} {a c : Nat} (h : foundIn l a c = []) : ∀ k, a ≤ k → k < l.length → ent l k c = 0 := fun k h1 h2 => by
  refine Classical.byContradiction fun n => ?_
  have : k ∈ foundIn l a c := by
    unfold foundIn
    refine List.mem_filter.mpr ⟨List.mem_map.mpr ⟨k - a, List.mem_range.mpr (by omega), by omega⟩, ?_⟩
    simpa [ent] using n
  rw [h] at this
  cases this
theorem Red.step {L c : Nat} {st : List (List Int) × List (Nat × Nat)} (R : Red L c st) (hc : c < L) : Red L (c + 1) (stepCol st c) := by
  unfold stepCol
  cases hf : foundIn st.1 st.2.length c with
  | nil =>
    have z := foundIn_nil hf
    refine ⟨R.len, R.few, fun i d h => ⟨(R.at' i d h).1, by have := (R.at' i d h).2; omega⟩, R.piv, R.zer, fun k h1 h2 j hj => ?_⟩
    by_cases e : j = c
    · rw [e]
      exact z k h1 h2
    · exact R.low k h1 h2 j (by omega)
  | cons f fs =>
    obtain ⟨f1, f2, f3⟩ := foundIn_mem (l := st.1) (a := st.2.length) (c := c) (k := f) (by rw [hf]; exact List.mem_cons_self ..)
    have ha : st.2.length < st.1.length := by omega
    have hswl := swapL_len st.1 st.2.length f
    have hsl : ∀ r ∈ swapL st.1 st.2.length f, r.length = L := fun r hr => by
      have mem : r ∈ st.1 := by
        unfold swapL at hr
        rcases List.mem_or_eq_of_mem_set hr with q | q
        · rcases List.mem_or_eq_of_mem_set q with q | q
          · exact q
          · rw [q, getD_eq f2]
            exact List.getElem_mem f2
        · rw [q, getD_eq ha]
          exact List.getElem_mem ha
      exact R.len r mem
    -- the entries behind the swap
    have sw : ∀ k j, k < st.1.length → ent (swapL st.1 st.2.length f) k j = ent st.1 (if k = f then st.2.length else if k = st.2.length then f else k) j := fun k j hk => ent_swap ha f2 hk
    have swlow : ∀ k, st.2.length ≤ k → k < st.1.length → ∀ j, j < c → ent (swapL st.1 st.2.length f) k j = 0 := fun k h1 h2 j hj => by
      rw [sw k j h2]
      refine R.low _ ?_ ?_ j hj
      · split
        · exact Nat.le_refl _
        · split <;> omega
      · split
        · exact ha
        · split <;> omega
    have swhi : ∀ k j, k < st.2.length → ent (swapL st.1 st.2.length f) k j = ent st.1 k j := fun k j hk => by
      rw [sw k j (by omega), if_neg (by omega), if_neg (by omega)]
    have hpiv : ent (swapL st.1 st.2.length f) st.2.length c ≠ 0 := by
      rw [sw _ _ ha]
      by_cases e : st.2.length = f
      · rw [if_pos e, e]
        exact f3
      · rw [if_neg e, if_pos rfl]
        exact f3
    have cl : ∀ k j, k < st.1.length → j < L → ent (clearAll (swapL st.1 st.2.length f) st.2.length c) k j = if k = st.2.length then ent (swapL st.1 st.2.length f) st.2.length j else if ent (swapL st.1 st.2.length f) k c = 0 then ent (swapL st.1 st.2.length f) k j else ent (swapL st.1 st.2.length f) k j * ent (swapL st.1 st.2.length f) st.2.length c - ent (swapL st.1 st.2.length f) k c * ent (swapL st.1 st.2.length f) st.2.length j := fun k j hk hj => ent_clear hsl (by omega) (by omega) hj
    have hL : ∀ d ∈ st.2, d.2 < c ∧ d.1 < st.2.length := fun d hd => by
      obtain ⟨i, hi⟩ := List.mem_iff_getElem?.mp hd
      obtain ⟨q1, q2⟩ := R.at' i d hi
      have := (List.getElem?_eq_some_iff.mp hi).1
      exact ⟨q2, by omega⟩
    have hlen2 : (clearAll (swapL st.1 st.2.length f) st.2.length c).length = st.1.length := by rw [clearAll_len, hswl]
    refine ⟨fun r hr => ?_, ?_, fun i d h => ?_, fun d hd => ?_, fun d hd k hk hne => ?_, fun k h1 h2 j hj => ?_⟩
    · obtain ⟨x, hx, rfl⟩ := List.mem_map.mp hr
      have hx1 := (List.mem_zipIdx' hx)
      have hm : x.1 ∈ swapL st.1 st.2.length f := by rw [hx1.2]; exact List.getElem_mem _
      have hh : (swapL st.1 st.2.length f).getD st.2.length [] ∈ swapL st.1 st.2.length f := by
        rw [getD_eq (by omega)]
        exact List.getElem_mem _
      split
      · exact hsl _ hm
      · rw [clearedRow_len (by rw [hsl _ hm, hsl _ hh])]
        exact hsl _ hm
    · show (st.2 ++ [(st.2.length, c)]).length ≤ (clearAll _ _ _).length
      rw [hlen2, List.length_append]
      simp
      omega
    · have h : (st.2 ++ [(st.2.length, c)])[i]? = some d := h
      by_cases hi : i < st.2.length
      · rw [List.getElem?_append_left hi] at h
        obtain ⟨q1, q2⟩ := R.at' i d h
        exact ⟨q1, by omega⟩
      · rw [List.getElem?_append_right (by omega)] at h
        have hi0 : i - st.2.length = 0 := by
          have := (List.getElem?_eq_some_iff.mp h).1
          simp at this
          omega
        rw [hi0] at h
        obtain rfl := Option.some.inj h
        exact ⟨by show st.2.length = i; omega, Nat.lt_succ_self c⟩
    · show ent (clearAll _ _ _) _ _ ≠ 0
      rcases List.mem_append.mp hd with q | q
      · obtain ⟨q1, q2⟩ := hL d q
        rw [cl d.1 d.2 (by omega) (by omega), if_neg (by omega)]
        have z0 : ent (swapL st.1 st.2.length f) st.2.length d.2 = 0 := swlow _ (Nat.le_refl _) ha _ q1
        rw [z0, Int.mul_zero, Int.sub_zero, swhi d.1 d.2 q2]
        split
        · exact R.piv d q
        · exact Int.mul_ne_zero (R.piv d q) hpiv
      · rw [List.mem_singleton.mp q]
        rw [cl st.2.length c ha hc, if_pos rfl]
        exact hpiv
    · show ent (clearAll _ _ _) _ _ = 0
      have hk : k < (clearAll (swapL st.1 st.2.length f) st.2.length c).length := hk
      rw [hlen2] at hk
      rcases List.mem_append.mp hd with q | q
      · obtain ⟨q1, q2⟩ := hL d q
        have z0 : ent (swapL st.1 st.2.length f) st.2.length d.2 = 0 := swlow _ (Nat.le_refl _) ha _ q1
        have zk : ent (swapL st.1 st.2.length f) k d.2 = 0 := by
          by_cases hk2 : k < st.2.length
          · rw [swhi _ _ hk2]
            exact R.zer d q k (by omega) hne
          · exact swlow k (by omega) hk _ q1
        rw [cl k d.2 hk (by omega), z0, zk]
        split
        · rfl
        · split <;> simp
      · rw [List.mem_singleton.mp q] at hne ⊢
        have hne : k ≠ st.2.length := hne
        show ent (clearAll (swapL st.1 st.2.length f) st.2.length c) k c = 0
        rw [cl k c hk hc, if_neg hne]
        split
        · assumption
        · rw [Int.mul_comm]
          exact Int.sub_self _
    · show ent (clearAll _ _ _) _ _ = 0
      have h1 : (st.2 ++ [(st.2.length, c)]).length ≤ k := h1
      rw [List.length_append] at h1
      have h1 : st.2.length + 1 ≤ k := h1
      have h2 : k < (clearAll (swapL st.1 st.2.length f) st.2.length c).length := h2
      rw [hlen2] at h2
      rw [cl k j h2 (by omega), if_neg (by omega)]
      by_cases e : j = c
      · subst e
        split
        · assumption
        · rw [Int.mul_comm]
          exact Int.sub_self _
      · rw [swlow k (by omega) h2 j (by omega), swlow st.2.length (Nat.le_refl _) ha j (by omega)]
        split <;> simp
theorem reduce_red {L : Nat} {rows : List (List Int)} (h : ∀ r ∈ rows, r.length = L) : ∀ c, c ≤ L → Red L c (reduce rows c)
  | 0, _ => ⟨h, Nat.zero_le _, fun i d h => by simp [reduce] at h, (fun _ h => nomatch h), (fun _ h => nomatch h), fun _ _ _ j hj => absurd hj (Nat.not_lt_zero j)⟩
  | c + 1, hc => (reduce_red h c (by omega)).step (by omega)
end K49

namespace K49
open PySem PySem.Spec PyProof.Rows L2
open C8 (Cal Met Mak pe_c pe_mk pe_mt pe_mt0 pe_gc)
open Evl (Ex)
def aug (p : List Int) : List Int := p ++ [1]
def spanRows (pts : List (List Int)) (q : List Int) : List (List Int) := (List.range (q.length + 1)).map fun i => (pts.map fun p => (aug p).getD i 0) ++ [(aug q).getD i 0]
def spSpan : Sp := fun vs H Q _ => ∃ (a e : Addr) (x : V) (pts : List (List Int)) (q : List Int), vs = [.ref a, .ref e] ∧ Ls IsP H a pts ∧ H e = some (.tup [x]) ∧ IsP H x (aug q) ∧ pts.length ≤ 100 ∧ q.length ≤ 100 ∧ (∀ p ∈ pts, p.length = q.length) ∧ RL IsRw (spanRows pts q) H Q
theorem K49.IsRw_of {H : Hp} {D : Addr} {r : List Int} (h : H D = some (.lst (r.map V.int))) : IsRw H (.ref D) r := ⟨D, rfl, h⟩
def CDivX (_ j : Int) : Prop := j ≠ 0 ∧ j.natAbs.log2 < 9000
theorem op_fdivX {X : Cx} : OpR X (binaryOp .FloorDiv) (rI CDivX fun i j => .int (i.fdiv j)) := opI fun i j _ _ _ _ _ hc q => floordiv_int hc.1 q (.inl (PyProof.noPylong_of_log2 hc.2))
/-- no row is left over whose last entry is not 0 -/
def solvable (pts : List (List Int)) (q : List Int) : Bool := (((reduce (spanRows pts q) pts.length).1.drop (reduce (spanRows pts q) pts.length).2.length).all fun r => decide (r.getLast?.getD 0 = 0))
theorem span_ok {pts : List (List Int)} {q : List Int} (hpl : ∀ p ∈ pts, p.length = q.length) (hpb : ∀ p ∈ pts, RowB 7 p) (hqb : RowB 7 q) : Rws (pts.length + 1) 7 (spanRows pts q) := by
  have ab : ∀ p, RowB 7 p → RowB 7 (aug p) := fun p h x hx => by
    rcases List.mem_append.mp hx with z | z
    · exact h x z
    · rw [List.mem_singleton.mp z]
      exact (by decide : (1 : Int).natAbs < 2 ^ 7)
  refine ⟨fun r hr => ?_, fun r hr => ?_⟩
  · obtain ⟨i, hi, rfl⟩ := List.mem_map.mp hr
    rw [List.length_append, List.length_map]
    rfl
  · obtain ⟨i, hi, rfl⟩ := List.mem_map.mp hr
    intro x hx
    rcases List.mem_append.mp hx with z | z
    · obtain ⟨p, hp, rfl⟩ := List.mem_map.mp z
      exact (ab p (hpb p hp)).getD (by decide) i
    · rw [List.mem_singleton.mp z]
      exact (ab q hqb).getD (by decide) i
theorem fdiv_bnd {n : Nat} {x y : Int} (h : Bnd n x) : Bnd (n + 1) (x.fdiv y) := by
  unfold Bnd at *
  have h1 : (x.fdiv y).natAbs ≤ x.natAbs + 1 := by
    rcases Int.lt_trichotomy y 0 with hy | hy | hy
    · have e : x.fdiv y = (-x).fdiv (-y) := (Int.neg_fdiv_neg x y).symm
      rw [e, Int.fdiv_eq_ediv_of_nonneg _ (by omega)]
      have z : ((-x) / (-y)).natAbs ≤ (-x).natAbs + 1 := Nat.le_succ_of_le (Int.natAbs_ediv_le_natAbs _ _)
      omega
    · rw [hy, Int.fdiv_zero]
      simp
    · rw [Int.fdiv_eq_ediv_of_nonneg _ (by omega)]
      have z : (x / y).natAbs ≤ x.natAbs + 1 := Nat.le_succ_of_le (Int.natAbs_ediv_le_natAbs _ _)
      omega
  rw [Nat.pow_succ]
  omega
def spWeights : Sp := fun vs H Q _ => ∃ (a : Addr) (x : V) (pts : List (List Int)) (q : List Int), vs = [.ref a, x] ∧ Ls IsP H a pts ∧ IsP H x q ∧ pts.length ≤ 4 ∧ q.length ≤ 3 ∧ (∀ p ∈ pts, p.length = q.length) ∧ (∀ p ∈ pts, RowB 7 p) ∧ RowB 7 q ∧
  (solvable pts q = false → RV .non H Q) ∧ (solvable pts q = true → ∀ t b sc (ws : List Int) H', Ex H H' → H' t = some (.tup [.ref b, .int sc]) → H' b = some (.lst (ws.map V.int)) → ws.length = pts.length → Q (.ref t) H')
section
variable {P : Program} {w : World} {K : PySem.W.Frag} {mg : Str → Option Value} {base : Heap}
theorem sc_span_rows : FnScope ["points", "ends", "columns", "point", "at", "column", "end"] ["points", "ends"] (defScope s_span_rows) := C8.fnScope_by (by decide +kernel)
theorem cal_span_rows (T : Txt mg) (D : DfnStar K mg "span_rows" s_span_rows ["points"] "ends") : CalR P w K mg base (1) "span_rows" (spStar ["points"] (spSpan)) := by
  have nd := sc_span_rows.nd
  refine D.cal sc_span_rows (fun vs H Q E h => by obtain ⟨a, e, x, pts, q, rfl, hL, he, hx, hn, hq, hpl, hQ⟩ := h; rfl) (fun f cdv A outer s H vs Q E hr h => ?_)
  obtain ⟨a, e, x, pts, q, rfl, hL, he, hx, hn, hq, hpl, hQ⟩ := h
  refine ⟨_, (pss_cons (ps_set (i := 2) nd rfl (Or.inr rfl) (pe_lc rfl nd (kpi_list K (pv 0)) (blkOk_by (own := [("point", 3)]) (N := ["points", "ends", "columns", "point", "at", "column", "end"]) (sc := defScope s_span_rows) (by decide +kernel)) (fun _ _ _ _ _ => (pg_name (i := 3) nd rfl (Or.inl rfl))) (fun _ _ _ _ _ => pts_nil) (fun _ _ _ _ _ => (pe_op (kcat K) (kpe_tupleOf K rfl T.b_tuple (pv 3)) (pe_tup (pa_cons pe_int pa_nil))))))
      (pss_one (ps_ret (pe_lc rfl nd (pi_range1 rfl T.b_range (pa_cons (pe_callB (klen K) rfl T.b_len PySem.boot_len (pa_cons (pe_ix (kix_tup K) (pv 1) pe_int (fun _ _ => rfl)) pa_nil)) pa_nil)) (blkOk_by (own := [("at", 4)]) (N := ["points", "ends", "columns", "point", "at", "column", "end"]) (sc := defScope s_span_rows) (by decide +kernel)) (fun _ _ _ _ _ => (pg_name (i := 4) nd rfl (Or.inr rfl))) (fun _ _ _ _ _ => pts_nil) (fun _ _ _ _ _ => (pe_op op_cat (pe_lc rfl nd (kpi_list K (pv 2)) (blkOk_by (own := [("column", 5)]) (N := ["points", "ends", "columns", "point", "at", "column", "end"]) rfl) (fun _ _ _ _ _ => (pg_name (i := 5) nd rfl (Or.inl rfl))) (fun _ _ _ _ _ => pts_nil) (fun _ _ _ _ _ => (pe_ix (kix_tup K) (pv 5) (pv 4) (fun _ _ => rfl)))) (pe_lc rfl nd (kpi_tup K (pv 1)) (blkOk_by (own := [("end", 6)]) (N := ["points", "ends", "columns", "point", "at", "column", "end"]) rfl) (fun _ _ _ _ _ => (pg_name (i := 6) nd rfl (Or.inl rfl))) (fun _ _ _ _ _ => pts_nil) (fun _ _ _ _ _ => (pe_ix (kix_tup K) (pv 6) (pv 4) (fun _ _ => rfl)))))))))), ?_⟩
  obtain ⟨xs, ha, hxs⟩ := hL
  have hxl := hxs.length
  refine ⟨_, rfl, a, rfl, ⟨xs, SqL.of ha⟩, fun D hD => lc_data pts (fun _ => true) IsP aug (Y := YAt xs) (G := fun H => SqL K H a xs) (by have z := walk_list (K := K) (a := a) (xs := xs); rw [hxl] at z; exact z) tst_P (by omega) hD (fun H e => SqL.of (e _ _ ha)) (fun i x H H' h => h.1 ▸ Ex.refl H) (fun j p y H9 H5 hp e5 hy Ky Kn k1 k2 => ?_) (fun H5 e5 hLs => ?_)⟩
  · obtain ⟨rfl, hyj⟩ := hy
    obtain ⟨p', hp', b, rfl, hb⟩ := paired_of hxs hyj
    obtain rfl := Option.some.inj (hp'.symm.trans hp)
    refine ⟨rfl, _, rfl, .inr ⟨b, _, rfl, SqT.of (e5 _ _ hb), by show 1 ≤ sizeLine; decide, fun t ht => ?_⟩⟩
    have e6 := Ex.new (o := .tup [.int 1]) ht
    exact cat_P ⟨b, rfl, e6 _ _ (e5 _ _ hb)⟩ upd_same (by rw [hpl p' (List.mem_of_getElem? hp)]; omega) fun v' H' e7 hv' => k1 rfl _ _ (e6.trans e7) hv'
  · rw [filter_all] at hLs
    obtain ⟨ys, hD5, hys⟩ := hLs
    have hyl := hys.length
    rw [List.length_map] at hyl
    obtain ⟨b, rfl, hb⟩ := hx
    have he5 := e5 _ _ he
    have hb5 := e5 _ _ hb
    have hal : (aug q).length = q.length + 1 := by simp [aug]
    refine ⟨_, rfl, e, _, 0, .ref b, rfl, rfl, SqT.of he5, atI_nat (j := 0) rfl, b, _, rfl, .inr (SqT.of hb5), (((aug q).map V.int).length : Int), rfl, by rw [List.length_map, hal]; omega, by rw [List.length_map, hal]; omega, fun F hF => lc_data2 (List.range (q.length + 1)) (fun _ => true) IsRw (fun i => (pts.map fun p => (aug p).getD i 0) ++ [(aug q).getD i 0]) (Y := YFn fun i => .int (0 + i)) (G := fun _ => True) (by have z := walk_range (lo := 0) (n := (((aug q).map V.int).length : Int).toNat); rw [show (((aug q).map V.int).length : Int).toNat = (List.range (q.length + 1)).length by rw [List.length_map, hal, List.length_range]; omega] at z ⊢; exact z) sst_Rw (by rw [List.length_range]; omega) hF (fun H e => trivial) (fun i x H H' h => h.1 ▸ Ex.refl H) (fun j i y H9 H6 ws hi e6 hFw hy Ky Kn k1 k2 => ?_) (fun H6 e6 hFs => ?_)⟩
    · obtain ⟨rfl, rfl⟩ := hy
      have hjl : j < q.length + 1 := by
        have := (List.getElem?_eq_some_iff.mp hi).1
        rw [List.length_range] at this
        exact this
      have hij : i = j := by
        rw [List.getElem?_range hjl] at hi
        exact (Option.some.inj hi).symm
      subst hij
      have e56 := e5.trans e6
      refine ⟨rfl, _, rfl, D, rfl, ⟨ys, SqL.of (e6 _ _ hD5)⟩, fun D2 hD2 => lc_data (pts.map aug) (fun _ => true) IsI (fun p => p.getD i 0) (Y := YAt ys) (G := fun H => SqL K H D ys) (by have z := walk_list (K := K) (a := D) (xs := ys); rw [hyl, ← List.length_map (f := aug)] at z; exact z) tst_I (by rw [List.length_map]; omega) hD2 (fun H e => SqL.of ((e6.trans e) _ _ hD5)) (fun i x H H' h => h.1 ▸ Ex.refl H) (fun j2 p y H8 H7 hp e7 hy Ky2 Kn2 k3 k4 => ?_) (fun H7 e7 hL7 => ?_)⟩
      · obtain ⟨rfl, hyj⟩ := hy
        obtain ⟨p', hp', b2, rfl, hb2⟩ := paired_of hys hyj
        obtain rfl := Option.some.inj (hp'.symm.trans hp)
        obtain ⟨p0, hp0, rfl⟩ := List.mem_map.mp (List.mem_of_getElem? hp)
        have hl0 : (aug p0).length = q.length + 1 := by rw [aug, List.length_append, hpl p0 hp0]; rfl
        refine ⟨rfl, _, rfl, _, rfl, b2, _, (0 + (i : Nat) : Int), .int ((aug p0).getD i 0), rfl, rfl, SqT.of ((e6.trans e7) _ _ hb2), ?_, k3 rfl _ _ (Ex.refl _) rfl⟩
        rw [show (0 : Int) + (i : Nat) = (i : Nat) by omega]
        exact at_P (by omega)
      · rw [filter_all] at hL7
        have hD27 := ls_I hL7
        have e67 := e6.trans e7
        refine ⟨_, rfl, e, rfl, ⟨_, SqT.of (e67 _ _ he5)⟩, fun D3 hD3 => lc_data [aug q] (fun _ => true) IsI (fun p => p.getD i 0) (Y := YAt [.ref b]) (G := fun H => SqT K H e [.ref b]) (walk_tup (xs := [.ref b])) tst_I (by show 1 ≤ 40000; omega) hD3 (fun H e' => SqT.of ((e67.trans e') _ _ he5)) (fun i x H H' h => h.1 ▸ Ex.refl H) (fun j2 p y H8 H8' hp e8 hy Ky2 Kn2 k3 k4 => ?_) (fun H8 e8 hL8 => ?_)⟩
        · obtain ⟨rfl, hyj⟩ := hy
          have hj0 : j2 = 0 := by
            have := (List.getElem?_eq_some_iff.mp hp).1
            simp at this
            exact this
          subst hj0
          obtain rfl := Option.some.inj hp
          obtain rfl := Option.some.inj hyj
          refine ⟨rfl, _, rfl, _, rfl, b, _, (0 + (i : Nat) : Int), .int ((aug q).getD i 0), rfl, rfl, SqT.of ((e67.trans e8) _ _ hb5), ?_, k3 rfl _ _ (Ex.refl _) rfl⟩
          rw [show (0 : Int) + (i : Nat) = (i : Nat) by omega]
          exact at_P (by omega)
        · rw [filter_all] at hL8
          have hD38 := ls_I hL8
          have hD28 := e8 _ _ hD27
          refine ⟨D2, D3, _, _, rfl, rfl, hD28, hD38, by simp; exact sz (by omega), fun p9 hp9 => k1 rfl _ _ ((e7.trans e8).trans (Ex.new hp9)) ⟨p9, rfl, ?_⟩⟩
          have n9 : p9 ≠ F := by
            intro ee
            have := (e7.trans e8) _ _ hFw
            rw [ee, this] at hp9
            cases hp9
          rw [hid_ne n9, upd_same]
          simp [Function.comp_def]
    · rw [filter_all] at hFs
      exact hQ F H6 (Evl.fresh_back e5 hF) (e5.trans e6) hFs
theorem sc_weights_for : FnScope ["points", "point", "scale", "weights", "rows", "leads", "at", "column", "row", "weight"] ["points", "point"] (defScope s_weights_for) := C8.fnScope_by (by decide +kernel)
theorem cal_weights_for (T : Txt mg) (D : Dfn K mg "weights_for" s_weights_for ["points", "point"] [])
    (C_span_rows : CalR P w K mg base 1 "span_rows" (spStar ["points"] spSpan))
    (C_reduced_rows : Cal P w K mg base 2 "reduced_rows" spReduced []) : Cal P w K mg base (3) "weights_for" (spWeights) [] := by
  have nd := sc_weights_for.nd
  refine D.cal sc_weights_for (fun vs H Q E h => by obtain ⟨a, x, pts, q, rfl, hL, hx, hn, hq, hpl, hpb, hqb, hQ⟩ := h; rfl) (fun f cdv A outer s H vs Q E hr h => ?_)
  obtain ⟨a, x, pts, q, rfl, hL, hx, hn, hq, hpl, hpb, hqb, hQ⟩ := h
  refine ⟨_, (pss_cons (ps_asg (pe_c C_reduced_rows hr (by decide) rfl (pa_cons (pe_cr C_span_rows hr (by decide) rfl (pa_cons (pv 0) (pa_cons (pe_op (kcat K) (kpe_tupleOf K rfl T.b_tuple (pv 1)) (pe_tup (pa_cons pe_int pa_nil))) pa_nil))) (pa_cons (pe_callB (klen K) rfl T.b_len PySem.boot_len (pa_cons (pv 0) pa_nil)) pa_nil))) (kpg_tup K 2 rfl (pgs_cons (pg_name (i := 4) nd rfl (Or.inl rfl)) (pgs_cons (pg_name (i := 5) nd rfl (Or.inl rfl)) pgs_nil))))
      (pss_cons (ps_if (pt_val (pe_callB (kany K rfl) rfl T.b_any (by decide +kernel) (pa_cons (pe_lc rfl nd (kpi_list K (pe_slice (ksl_list K) (pv 4) (po_some (pe_callB (klen K) rfl T.b_len PySem.boot_len (pa_cons (pv 5) pa_nil))) po_none)) (blkOk_by (own := [("row", 8)]) (N := ["points", "point", "scale", "weights", "rows", "leads", "at", "column", "row", "weight"]) (sc := defScope s_weights_for) (by decide +kernel)) (fun _ _ _ _ _ => (pg_name (i := 8) nd rfl (Or.inl rfl))) (fun _ _ _ _ _ => pts_nil) (fun _ _ _ _ _ => (pe_cmpR op_ne (pe_ix (kix_list K) (pv 8) (pe_un un_neg pe_int) (fun _ _ => rfl)) pe_int (nomark _)))) pa_nil))) (pss_one (ps_ret pe_non)) pss_nil)
      (pss_cons (ps_set (i := 2) nd rfl (Or.inl rfl) pe_int)
      (pss_cons (ps_for PassesOwn.never rfl (kpi_list K (pv 5)) (kpg_tup K 2 rfl (pgs_cons (pg_name (i := 6) nd rfl (Or.inl rfl)) (pgs_cons (pg_name (i := 7) nd rfl (Or.inl rfl)) pgs_nil))) (pss_one (ps_set (i := 2) nd rfl (Or.inl rfl) (pe_op op_mulW (pv 2) (pe_ix (kix_list K) (pe_ix (kix_list K) (pv 4) (pv 6) (fun _ _ => rfl)) (pv 7) (fun _ _ => rfl))))))
      (pss_cons (ps_set (i := 3) nd rfl (Or.inl rfl) (pe_op op_rep (pe_lst (pa_cons pe_int pa_nil)) (pe_callB (klen K) rfl T.b_len PySem.boot_len (pa_cons (pv 0) pa_nil))))
      (pss_cons (ps_for PassesOwn.never rfl (kpi_list K (pv 5)) (kpg_tup K 2 rfl (pgs_cons (pg_name (i := 6) nd rfl (Or.inl rfl)) (pgs_cons (pg_name (i := 7) nd rfl (Or.inl rfl)) pgs_nil))) (pss_one (ps_asg (pe_op op_mulW (pe_ix (kix_list K) (pe_ix (kix_list K) (pv 4) (pv 6) (fun _ _ => rfl)) (pe_un un_neg pe_int) (fun _ _ => rfl)) (pe_op op_fdivX (pv 2) (pe_ix (kix_list K) (pe_ix (kix_list K) (pv 4) (pv 6) (fun _ _ => rfl)) (pv 7) (fun _ _ => rfl)))) (pg_sub (pv 3) (pv 7) set_list))))
      (pss_cons (ps_if (pt_cmpR op_lt (pv 2) pe_int (nomark _)) (pss_one (ps_ret (pe_tup (pa_cons (pe_lc rfl nd (kpi_list K (pv 3)) (blkOk_by (own := [("weight", 9)]) (N := ["points", "point", "scale", "weights", "rows", "leads", "at", "column", "row", "weight"]) (sc := defScope s_weights_for) (by decide +kernel)) (fun _ _ _ _ _ => (pg_name (i := 9) nd rfl (Or.inl rfl))) (fun _ _ _ _ _ => pts_nil) (fun _ _ _ _ _ => (pe_un un_neg (pv 9)))) (pa_cons (pe_un un_neg (pv 2)) pa_nil))))) pss_nil)
      (pss_one (ps_ret (pe_tup (pa_cons (pv 3) (pa_cons (pv 2) pa_nil)))))))))))), ?_⟩
  have hRw := span_ok hpl hpb hqb
  have hsl : (spanRows pts q).length = q.length + 1 := by simp [spanRows]
  have hRed := reduce_red (L := pts.length + 1) (rows := spanRows pts q) hRw.len pts.length (Nat.le_succ _)
  obtain ⟨hok1, hok2, hok3⟩ := reduce_ok hRw pts.length
  have hbn : bn pts.length ≤ 127 := by
    have : pts.length = 0 ∨ pts.length = 1 ∨ pts.length = 2 ∨ pts.length = 3 ∨ pts.length = 4 := by omega
    rcases this with h | h | h | h | h <;> rw [h] <;> decide
  have hbn7 := bn_pos pts.length
  obtain ⟨xs, ha, hxs⟩ := hL
  have hxl := hxs.length
  obtain ⟨b, rfl, hb⟩ := hx
  have hal : (aug q).length = q.length + 1 := by simp [aug]
  refine ⟨_, rfl, _, rfl, .inr ⟨b, _, rfl, SqT.of hb, by show 1 ≤ sizeLine; decide, fun t0 ht0 => ?_⟩⟩
  have e0 := Ex.new (o := .tup [.int 1]) ht0
  refine cat_P ⟨b, rfl, e0 _ _ hb⟩ upd_same (by omega) fun vq H1 e1 hvq => ?_
  refine ⟨[.ref a], [vq], rfl, rfl, by show 1 ≤ sizeLine; decide, fun en hen => ?_⟩
  have e2 : Ex H1 (upd H1 en (.tup [vq])) := Ex.new hen
  have e02 := (e0.trans e1).trans e2
  have ha2 := e02 _ _ ha
  refine ⟨a, en, vq, pts, q, rfl, ⟨xs, ha2, hxs.mono tst_P.sst e02⟩, upd_same, tst_P _ _ _ _ (Ex.tex e2) hvq, by omega, by omega, hpl, fun sp H3 hsp e3 hLs => ?_⟩
  have e03 := e02.trans e3
  refine ⟨_, rfl, a, xs, rfl, .inl (SqL.of (e03 _ _ ha)), sp, pts.length, pts.length + 1, spanRows pts q, by rw [hxl]; rfl, hLs, hn, Nat.lt_succ_self _, by omega, by rw [hsl]; omega, hRw.len, hRw, fun t l ld H4 e4 ht hll hlld => ?_⟩
  have e04 := e03.trans e4
  generalize hst : reduce (spanRows pts q) pts.length = st at hRed hok1 hok2 hok3 hll hlld
  have hsol : solvable pts q = (st.1.drop st.2.length).all fun r => decide (r.getLast?.getD 0 = 0) := by
    unfold solvable
    rw [hst]
  obtain ⟨ys, hl4, hys'⟩ := hll
  have hys : All IsRw H4 ys st.1 := hys'.mono sst_Rw (hid_ex l H4)
  obtain ⟨zs, hld4, hzs⟩ := hlld
  have hyl := hys.length
  have hzl := hzs.length
  rw [List.length_map] at hzl
  refine ⟨t, _, rfl, SqT.of ht, rfl, _, _, rfl, _, _, rfl, rfl, ?_⟩
  refine ⟨_, rfl, _, rfl, ld, zs, rfl, .inl (SqL.of hld4), ((zs.length : Nat) : Int), rfl, l, ys, rfl, SqL.of hl4, fun p5 hp5 => ?_⟩
  rw [cut_drop ys zs.length]
  have e5 := Ex.new (o := .lst (ys.drop zs.length)) hp5
  have hd5 : All IsRw (upd H4 p5 (.lst (ys.drop zs.length))) (ys.drop zs.length) (st.1.drop zs.length) := All.mono sst_Rw e5 (paired_drop zs.length hys)
  have hp55 : (upd H4 p5 (.lst (ys.drop zs.length))) p5 = some (.lst (ys.drop zs.length)) := upd_same
  have hdl := hd5.length
  generalize upd H4 p5 (.lst (ys.drop zs.length)) = H5 at e5 hd5 hp55
  refine ⟨p5, rfl, ⟨_, SqL.of hp55⟩, fun D hD => lc_data (st.1.drop zs.length) (fun _ => true) IsBl (fun r => !decide (r.getLast?.getD 0 = 0)) (Y := YAt (ys.drop zs.length)) (G := fun H => SqL K H p5 (ys.drop zs.length)) (by have z := walk_list (K := K) (a := p5) (xs := ys.drop zs.length); rw [hdl] at z; exact z) tst_Bl (by rw [List.length_drop]; omega) hD (fun H e => SqL.of (e _ _ hp55)) (fun i x H H' h => h.1 ▸ Ex.refl H) (fun j r y H9 H6 hr' e6 hy Ky Kn k1 k2 => ?_) (fun H6 e6 hLs6 => ?_)⟩
  · obtain ⟨rfl, hyj⟩ := hy
    obtain ⟨r', hr2, c, rfl, hc⟩ := paired_of hd5 hyj
    obtain rfl := Option.some.inj (hr2.symm.trans hr')
    have hrl : r'.length = pts.length + 1 := hok1.len r' (List.mem_of_mem_drop (List.mem_of_getElem? hr'))
    obtain ⟨r0, rl, hrr⟩ : ∃ r0 rl, r' = r0 ++ [rl] := by
      have hne : r' ≠ [] := fun e => by rw [e] at hrl; simp at hrl
      exact ⟨r'.dropLast, r'.getLast hne, (List.dropLast_concat_getLast hne).symm⟩
    subst hrr
    refine ⟨rfl, _, rfl, 1, rfl, c, _, -1, .int rl, rfl, rfl, SqL.of (e6 _ _ hc), by rw [List.map_append]; exact atI_last _ _, rfl, k1 rfl _ _ (Ex.refl _) ?_⟩
    show V.bl _ = V.bl _
    congr 2
    rw [Bool.eq_iff_iff, decide_eq_true_iff, decide_eq_true_iff]
    simp
  · rw [filter_all] at hLs6
    have hLb := ls_Bl hLs6
    refine ⟨D, _, rfl, SqL.of hLb, _, rfl, ?_⟩
    have ev : ((st.1.drop zs.length).map fun r => !decide (r.getLast?.getD 0 = 0)).any id = !solvable pts q := by
      rw [hsol, hzl, List.any_map, List.not_all_eq_any_not]
      rfl
    rw [ev]
    have e06 := e04.trans (e5.trans e6)
    cases hs : solvable pts q with
    | false => exact iteT (hQ.1 hs H6 e06)
    | true =>
      refine iteF ?_
      have hl6 := (e5.trans e6) _ _ hl4
      have hld6 := (e5.trans e6) _ _ hld4
      have hys6 := hys.mono sst_Rw (e5.trans e6)
      have hzs6 := hzs.mono tst_II.sst (e5.trans e6)
      -- one of the leads
      have lead : ∀ (H7 : Hp), Ex H6 H7 → ∀ (i : Nat) (x : V), zs[i]? = some x → ∃ (t : Addr) (d : Nat × Nat) (c : Addr), x = .ref t ∧ H7 t = some (.tup [.int ((d.1 : Nat) : Int), .int ((d.2 : Nat) : Int)]) ∧ ys[d.1]? = some (.ref c) ∧ H7 c = some (.lst ((st.1.getD d.1 []).map V.int)) ∧ (st.1.getD d.1 []).length = pts.length + 1 ∧ RowB (bn pts.length) (st.1.getD d.1 []) ∧ d.2 < pts.length ∧ (st.1.getD d.1 []).getD d.2 0 ≠ 0 := fun H7 e7 i x hx => by
        obtain ⟨dd, hdd, t, rfl, ht⟩ := paired_of hzs6 hx
        rw [List.getElem?_map] at hdd
        obtain ⟨d, hd, rfl⟩ := Option.map_eq_some_iff.mp hdd
        obtain ⟨q1, q2⟩ := hRed.at' i d hd
        have hil := (List.getElem?_eq_some_iff.mp hd).1
        have hdl : d.1 < st.1.length := by have := hRed.few; omega
        have hg : st.1[d.1]? = some (st.1.getD d.1 []) := by simp [List.getD, List.getElem?_eq_getElem hdl]
        obtain ⟨y, hy, c, rfl, hc⟩ := paired_at hys6 hg
        exact ⟨t, d, c, rfl, e7 _ _ ht, hy, e7 _ _ hc, hok1.len _ (List.mem_of_getElem? hg), hok1.bnd _ (List.mem_of_getElem? hg), q2, hRed.piv d (List.mem_of_getElem? hd)⟩
      have hz4 : zs.length ≤ 4 := by omega
      refine ⟨_, rfl, ld, rfl, ⟨zs, SqL.of hld6⟩, for_it (walk_list (xs := zs)) (fun i σ H7 => Ex H6 H7 ∧ ∃ (sc : Int) (x3 x6 x7 x8 x9 : Option V), σ = [some (.ref a), some (.ref b), some (.int sc), x3, some (.ref l), some (.ref ld), x6, x7, x8, x9] ∧ Bnd (1 + 127 * i) sc) ⟨Ex.refl _, 1, _, _, _, _, _, rfl, by show (1 : Int).natAbs < 2 ^ 1; decide⟩ (fun i σ H7 _ h => SqL.of (h.1 _ _ hld6)) (fun i x σ H9 H7 hi h hy => ?_) (fun σ H7 h => ?_)⟩
      · obtain ⟨e7, sc, x3, x6, x7, x8, x9, rfl, hsc⟩ := h
        obtain ⟨rfl, hxi⟩ := hy
        obtain ⟨t, d, c, rfl, ht, hy1, hc, hcl, hcb, hdm, hdp⟩ := lead _ e7 i x hxi
        have hcd := (hcb.getD (by omega) d.2).mono hbn
        refine ⟨t, _, rfl, SqT.of ht, rfl, _, _, rfl, _, _, rfl, rfl, ?_⟩
        refine ⟨_, rfl, _, rfl, _, rfl, l, ys, (d.1 : Int), .ref c, rfl, rfl, SqL.of (e7 _ _ hl6), atI_nat hy1, _, rfl, c, _, (d.2 : Int), .int ((st.1.getD d.1 []).getD d.2 0), rfl, rfl, SqL.of hc, at_L (by omega), sc, _, rfl, rfl, hsc.mulW hcd (by omega), ?_⟩
        exact ⟨e7, _, _, _, _, _, _, rfl, (hsc.mul hcd).mono (by omega)⟩
      · obtain ⟨e7, sc, x3, x6, x7, x8, x9, rfl, hsc⟩ := h
        have hsc := hsc.mono (show 1 + 127 * zs.length ≤ 600 by omega)
        have e07 := e06.trans e7
        refine ⟨by show 1 ≤ sizeLine; decide, fun z0 hz0 => ?_⟩
        have e8 := Ex.new (o := .lst [.int 0]) hz0
        have e08 := e07.trans e8
        refine ⟨_, rfl, a, xs, rfl, .inl (SqL.of (e08 _ _ ha)), z0, _, [.int 0], rfl, rfl, upd_same, by omega, by omega, by simp; exact sz (by omega), fun wv hwv => ?_⟩
        have e9 := Ex.new (o := .lst (List.replicate ((xs.length : Nat) : Int).toNat [V.int 0]).flatten) hwv
        have hrep : (List.replicate ((xs.length : Nat) : Int).toNat [V.int 0]).flatten = ((List.replicate pts.length (0 : Int)).map V.int) := by
          rw [hxl, Int.toNat_natCast]
          simp
        rw [hrep] at e9 ⊢
        have e79 := (e7.trans e8).trans e9
        have hwf : H6 wv = none := Evl.fresh_back (e7.trans e8) hwv
        refine ⟨_, rfl, ld, rfl, ⟨zs, SqL.of (e79 _ _ hld6)⟩, for_it (walk_list (xs := zs)) (fun i σ H8 => Ex H6 H8 ∧ (∃ x6 x7 x8 x9, σ = [some (.ref a), some (.ref b), some (.int sc), some (.ref wv), some (.ref l), some (.ref ld), x6, x7, x8, x9]) ∧ ∃ ws : List Int, H8 wv = some (.lst (ws.map V.int)) ∧ ws.length = pts.length) ⟨e79, ⟨_, _, _, _, rfl⟩, List.replicate pts.length 0, upd_same, List.length_replicate⟩ (fun i σ H8 _ h => SqL.of (h.1 _ _ hld6)) (fun i x σ H9 H8 hi h hy => ?_) (fun σ H8 h => ?_)⟩
        · obtain ⟨eA, ⟨x6, x7, x8, x9, rfl⟩, ws, hw1, hw2⟩ := h
          obtain ⟨rfl, hxi⟩ := hy
          obtain ⟨t, d, c, rfl, ht, hy1, hc, hcl, hcb, hdm, hdp⟩ := lead _ eA i x hxi
          have hcd := (hcb.getD (by omega) d.2).mono hbn
          obtain ⟨r0, rl, hrr⟩ : ∃ r0 rl, st.1.getD d.1 [] = r0 ++ [rl] := by
            have hne : st.1.getD d.1 [] ≠ [] := fun e => by rw [e] at hcl; simp at hcl
            exact ⟨_, _, (List.dropLast_concat_getLast hne).symm⟩
          have hrlb : Bnd 127 rl := (hcb rl (by rw [hrr]; simp)).mono hbn
          refine ⟨t, _, rfl, SqT.of ht, rfl, _, _, rfl, _, _, rfl, rfl, ?_⟩
          refine ⟨_, rfl, _, rfl, l, ys, (d.1 : Int), .ref c, rfl, rfl, SqL.of (eA _ _ hl6), atI_nat hy1, 1, rfl, c, _, -1, .int rl, rfl, rfl, SqL.of hc, by rw [hrr, List.map_append]; exact atI_last _ _, ?_⟩
          refine ⟨_, rfl, _, rfl, _, rfl, l, ys, (d.1 : Int), .ref c, rfl, rfl, SqL.of (eA _ _ hl6), atI_nat hy1, _, rfl, c, _, (d.2 : Int), .int ((st.1.getD d.1 []).getD d.2 0), rfl, rfl, SqL.of hc, at_L (by omega), sc, _, rfl, rfl, ⟨hdp, by have := hcd.log; omega⟩, rl, _, rfl, rfl, hrlb.mulW (fdiv_bnd hsc) (by omega), ?_⟩
          refine ⟨_, rfl, _, rfl, wv, _, (d.2 : Int), d.2, rfl, rfl, hw1, ?_, Ex.mut eA hwf, ⟨_, _, _, _, rfl⟩, ws.set d.2 (rl * (sc.fdiv ((st.1.getD d.1 []).getD d.2 0))), ?_, by rw [List.length_set]; exact hw2⟩
          · unfold ixN
            rw [List.length_map, if_pos (by omega), if_pos (by omega), Int.toNat_natCast]
          · rw [upd_same, List.map_set]
        · obtain ⟨eA, ⟨x6, x7, x8, x9, rfl⟩, ws, hw1, hw2⟩ := h
          have e0A := e06.trans eA
          refine ⟨_, rfl, _, _, rfl, rfl, _, rfl, ?_⟩
          cases hsg : decide (sc < 0) with
          | false =>
            refine iteF ⟨_, rfl, _, rfl, by show 2 ≤ sizeLine; decide, fun t9 ht9 => ?_⟩
            have eB := Ex.new (o := .tup [.ref wv, .int sc]) ht9
            exact hQ.2 hs t9 wv sc ws _ (e0A.trans eB) upd_same (eB _ _ hw1) hw2
          | true =>
            refine iteT ⟨_, rfl, wv, rfl, ⟨_, SqL.of hw1⟩, fun D2 hD2 => lc_data ws (fun _ => true) IsI (fun x => -x) (Y := YAt (ws.map V.int)) (G := fun H => SqL K H wv (ws.map V.int)) (by have z := walk_list (K := K) (a := wv) (xs := ws.map V.int); rw [List.length_map] at z; exact z) tst_I (by omega) hD2 (fun H e => SqL.of (e _ _ hw1)) (fun i x H H' h => h.1 ▸ Ex.refl H) (fun j x y Hx H10 hx' e10 hy Ky Kn k1 k2 => ?_) (fun H10 e10 hL10 => ?_)⟩
            · obtain ⟨rfl, hyj⟩ := hy
              rw [List.getElem?_map, hx'] at hyj
              obtain rfl := Option.some.inj hyj
              exact ⟨rfl, _, rfl, x, rfl, k1 rfl _ _ (Ex.refl _) rfl⟩
            · rw [filter_all] at hL10
              have hD10 := ls_I hL10
              refine ⟨_, rfl, sc, rfl, by show 2 ≤ sizeLine; decide, fun t9 ht9 => ?_⟩
              have eB := Ex.new (o := .tup [.ref D2, .int (-sc)]) ht9
              exact hQ.2 hs t9 D2 (-sc) _ _ ((e0A.trans e10).trans eB) upd_same (eB _ _ hD10) (by rw [List.length_map]; exact hw2)
end
end K49

namespace K49
open PySem PySem.Spec PyProof.Rows L2
open C8 (Cal Met Mak pe_c pe_mk pe_mt pe_mt0 pe_gc)
open Evl (Ex)
def flatFits (vw : View) : Bool := (withLabel vw false).all fun d => !solvable ((withLabel vw true).map fun d => d.2) d.2
def spJudgeFlat : Sp := fun vs H Q _ => ∃ (k : Nat) (v : Addr) (vw : View), vs = [.ref v] ∧ k ≤ 3 ∧ Ls IsVw H v vw ∧ vw.length ≤ 1000 ∧ (withLabel vw false ≠ [] → (withLabel vw true).length ≤ 4) ∧ (∀ d ∈ vw, d.2.1.length = k ∧ RowB 7 d.2.1) ∧ RJ (flatFits vw = true) H Q
section
variable {P : Program} {w : World} {K : PySem.W.Frag} {mg : Str → Option Value} {base : Heap}
theorem sc_judge_flat : FnScope ["view", "yeses", "points", "number", "point", "found", "weights", "weight", "other", "one"] ["view"] (defScope s_judge_flat) := C8.fnScope_by (by decide +kernel)
theorem cal_judge_flat (T : Txt mg) (D : Dfn K mg "judge_flat" s_judge_flat ["view"] [])
    (C_with_label : Cal P w K mg base 1 "with_label" spWith []) (C_weights_for : Cal P w K mg base 3 "weights_for" spWeights []) : Cal P w K mg base (4) "judge_flat" (spJudgeFlat) [] := by
  have nd := sc_judge_flat.nd
  refine D.cal sc_judge_flat (fun vs H Q E h => by obtain ⟨k, v, vw, rfl, hk, hL, hn, hn4, hpl, hQ⟩ := h; rfl) (fun f cdv A outer s H vs Q E hr h => ?_)
  obtain ⟨k, v, vw, rfl, hk, hL, hn, hn4, hpl, hQ⟩ := h
  refine ⟨_, (pss_cons (ps_set (i := 1) nd rfl (Or.inl rfl) (pe_c C_with_label hr (by decide) rfl (pa_cons (pv 0) (pa_cons pe_bl pa_nil))))
      (pss_cons (ps_setLc (i := 2) rfl nd rfl rfl (sw_true rfl rfl rfl (by decide +kernel)) (kpi_list K (pv 1)) (blkOk_by (own := [("number", 3), ("point", 4)]) (N := ["view", "yeses", "points", "number", "point", "found", "weights", "weight", "other", "one"]) (sc := defScope s_judge_flat) (by decide +kernel)) (fun _ _ _ _ _ => (kpg_tup K 2 rfl (pgs_cons (pg_name (i := 3) nd rfl (Or.inl rfl)) (pgs_cons (pg_name (i := 4) nd rfl (Or.inl rfl)) pgs_nil)))) (fun _ _ _ _ _ => pts_nil) (fun _ _ _ _ _ => (pv 4)))
      (pss_cons (ps_for PassesOwn.never rfl (kpi_list K (pe_c C_with_label hr (by decide) rfl (pa_cons (pv 0) (pa_cons pe_bl pa_nil)))) (kpg_tup K 2 rfl (pgs_cons (pg_name (i := 3) nd rfl (Or.inl rfl)) (pgs_cons (pg_name (i := 4) nd rfl (Or.inl rfl)) pgs_nil))) (pss_cons (ps_set (i := 5) nd rfl (Or.inl rfl) (pe_c C_weights_for hr (by decide) rfl (pa_cons (pv 2) (pa_cons (pv 4) pa_nil))))
      (pss_one (ps_if (pt_cmpR op_notN1 (pv 5) pe_non (nomark _)) (pss_cons (ps_setLc (i := 6) rfl nd rfl rfl (sw_true rfl rfl rfl (by decide +kernel)) (kpi_zip K rfl T.b_zip (pa_cons (pv 1) (pa_cons (pe_ix (kix_tup K) (pv 5) pe_int (fun _ _ => rfl)) pa_nil))) (blkOk_by (own := [("weight", 7), ("other", 8), ("one", 9)]) (N := ["view", "yeses", "points", "number", "point", "found", "weights", "weight", "other", "one"]) (sc := defScope s_judge_flat) (by decide +kernel)) (fun _ _ _ _ _ => (kpg_tup K 2 rfl (pgs_cons (kpg_tup K 2 rfl (pgs_cons (pg_name (i := 8) nd rfl (Or.inl rfl)) (pgs_cons (pg_name (i := 9) nd rfl (Or.inl rfl)) pgs_nil))) (pgs_cons (pg_name (i := 7) nd rfl (Or.inl rfl)) pgs_nil)))) (fun _ _ _ _ _ => (pts_one (pt_cmpR op_ne (pv 7) pe_int (nomark _)))) (fun _ _ _ _ _ => (pe_tup (pa_cons (pv 8) (pa_cons (pv 7) pa_nil)))))
      (pss_one (ps_ret (pe_tup (pa_cons pe_non (pa_cons (pe_tup (pa_cons pe_str (pa_cons (pv 3) (pa_cons (pv 6) pa_nil)))) pa_nil)))))) pss_nil))))
      (pss_one (ps_ret (pe_tup (pa_cons (pe_tup (pa_cons pe_str (pa_cons (kpe_tupleOf K rfl T.b_tuple (pv 2)) pa_nil))) (pa_cons pe_non pa_nil)))))))), ?_⟩
  have wpl : ∀ b, ∀ d ∈ withLabel vw b, d.2.length = k ∧ RowB 7 d.2 := fun b d hd => by
    obtain ⟨d', hd', rfl⟩ := List.mem_map.mp hd
    exact hpl d' (List.mem_filter.mp hd').1
  have hwl : (withLabel vw true).length ≤ 1000 := by unfold withLabel; rw [List.length_map]; exact Nat.le_trans (List.length_filter_le _ _) hn
  refine ⟨_, rfl, v, true, vw, rfl, hL, hn, fun p H1 hp e1 hLp => ?_⟩
  obtain ⟨ys, hp1, hys⟩ := hLp
  have hyl := hys.length
  have hV1 := hL.mono tst_Vw.sst e1
  refine ⟨_, rfl, p, rfl, ⟨ys, SqL.of hp1⟩, fun D hD => lc_data (withLabel vw true) (fun _ => true) IsP (fun d => d.2) (Y := YAt ys) (G := fun H => SqL K H p ys) (by have z := walk_list (K := K) (a := p) (xs := ys); rw [hyl] at z; exact z) tst_P (by omega) hD (fun H e => SqL.of (e _ _ hp1)) (fun i x H H' h => h.1 ▸ Ex.refl H) (fun j l z H9 H5 hl e5 hz Ky Kn k1 k2 => ?_) (fun H5 e5 hLs => ?_)⟩
  · obtain ⟨rfl, hzj⟩ := hz
    obtain ⟨l', hl', hr2⟩ := paired_of hys hzj
    obtain rfl := Option.some.inj (hl'.symm.trans hl)
    obtain ⟨b2, y2, rfl, hb2, hy2⟩ := tst_NP _ _ _ _ (Ex.tex e5) hr2
    exact ⟨b2, _, rfl, SqT.of hb2, rfl, _, _, rfl, _, _, rfl, rfl, rfl, _, rfl, k1 rfl _ _ (Ex.refl _) hy2⟩
  · rw [filter_all] at hLs
    have hV5 := hV1.mono tst_Vw.sst e5
    refine ⟨_, rfl, v, false, vw, rfl, hV5, hn, fun p2 H6 hp2 e6 hLp2 => ?_⟩
    obtain ⟨zs, hp26, hzs⟩ := hLp2
    have hzl := hzs.length
    have e16 := (e1.trans e5).trans e6
    have hp6 := (e5.trans e6) _ _ hp1
    have hys6 := hys.mono tst_NP.sst (e5.trans e6)
    have hL6 := hLs.mono tst_P.sst e6
    refine ⟨p2, rfl, ⟨zs, SqL.of hp26⟩, for_it (walk_list (xs := zs)) (fun i σ H' => Ex H6 H' ∧ (∃ x3 x4 x5 x6 x7 x8 x9, σ = [some (.ref v), some (.ref p), some (.ref D), x3, x4, x5, x6, x7, x8, x9]) ∧ ∀ d ∈ (withLabel vw false).take i, solvable ((withLabel vw true).map fun d => d.2) d.2 = false) ⟨Ex.refl _, ⟨_, _, _, _, _, _, _, rfl⟩, fun d hd => by simp at hd⟩ (fun i σ H' _ h => SqL.of (h.1 _ _ hp26)) (fun i x σ H9 H' hi h hy => ?_) (fun σ H' h => ?_)⟩
    · obtain ⟨e, ⟨x3, x4, x5, x6, x7, x8, x9, rfl⟩, hno⟩ := h
      obtain ⟨rfl, hxi⟩ := hy
      obtain ⟨d, hd, hrd⟩ := paired_of hzs hxi
      obtain ⟨b, y, rfl, hb, hy⟩ := tst_NP _ _ _ _ (Ex.tex e) hrd
      obtain ⟨hdl, hdb⟩ := wpl false d (List.mem_of_getElem? hd)
      refine ⟨b, _, rfl, SqT.of hb, rfl, _, _, rfl, _, _, rfl, rfl, ?_⟩
      refine ⟨_, rfl, _, rfl, D, y, (withLabel vw true).map fun d => d.2, d.2, rfl, hL6.mono tst_P.sst e, hy, by rw [List.length_map]; exact hn4 (fun h0 => by rw [h0] at hd; cases hd), by omega, fun q hq => ?_, fun q hq => ?_, hdb, fun hs H8 e8 => ?_, fun hs t b9 sc ws H8 e8 ht hb9 hwl => ?_⟩
      · obtain ⟨d', hd', rfl⟩ := List.mem_map.mp hq
        rw [(wpl true d' hd').1, hdl]
      · obtain ⟨d', hd', rfl⟩ := List.mem_map.mp hq
        exact (wpl true d' hd').2
      · refine ⟨_, rfl, rfl, _, rfl, iteF ⟨e.trans e8, ⟨_, _, _, _, _, _, _, rfl⟩, fun d' hd' => ?_⟩⟩
        rw [take_succ_of hd] at hd'
        rcases List.mem_append.mp hd' with h | h
        · exact hno d' h
        · rw [List.mem_singleton.mp h]
          exact hs
      · refine ⟨_, rfl, rfl, _, rfl, iteT ?_⟩
        rw [List.length_map] at hwl
        have e68 := e.trans e8
        have e18 := e16.trans e68
        have hp8 := e68 _ _ hp6
        have hys8 := hys6.mono tst_NP.sst e68
        refine ⟨_, rfl, _, rfl, t, _, 0, .ref b9, rfl, rfl, SqT.of ht, atI_nat (j := 0) rfl, p, b9, _, _, rfl, SqL.of hp8, SqL.of hb9, fun D2 hD2 => lc_data ((withLabel vw true).zip ws) (fun d => !decide (d.2 = 0)) IsII (fun d => (d.1.1, d.2)) (Y := YPair (fun i => ys[i]?) (fun i => (ws.map V.int)[i]?)) (G := fun H => SqL K H p ys ∧ SqL K H b9 (ws.map V.int)) (walk_zip (by rw [List.length_zip, List.length_map, hyl])) tst_II (by rw [List.length_zip]; omega) hD2 (fun H e => ⟨SqL.of (e _ _ hp8), SqL.of (e _ _ hb9)⟩) (fun i x H H' h => by obtain ⟨T1, y1, y2, _, hT, rfl, _⟩ := h; exact Ex.new hT) (fun j d z H9 H5 hd e5 hz Ky Kn k1 k2 => ?_) (fun H5 e5 hLs => ?_)⟩
        · obtain ⟨T1, y1, y2, rfl, hT, rfl, q1, q2⟩ := hz
          have q1 : ys[j]? = some y1 := q1
          have q2 : (ws.map V.int)[j]? = some y2 := q2
          obtain ⟨h1, h2⟩ := List.getElem?_zip_eq_some.mp hd
          rw [List.getElem?_map, h2] at q2
          obtain rfl := Option.some.inj q2
          obtain ⟨l', hl', hr2⟩ := paired_of hys8 q1
          obtain rfl := Option.some.inj (hl'.symm.trans h1)
          have eT := Ex.new (o := .tup [y1, .int d.2]) hT
          obtain ⟨b2, y2, rfl, hb2, hy2⟩ := tst_NP _ _ _ _ (Ex.tex (e5.trans eT)) hr2
          refine ⟨T1, _, rfl, SqT.of upd_same, rfl, _, _, rfl, b2, _, rfl, SqT.of hb2, rfl, _, _, rfl, _, _, rfl, rfl, _, _, rfl, rfl, ?_⟩
          refine ⟨rfl, _, rfl, rfl, _, rfl, ?_⟩
          have ev : (!decide (V.int d.2 = V.int 0)) = !decide (d.2 = 0) := by
            congr 1
            rw [Bool.eq_iff_iff, decide_eq_true_iff, decide_eq_true_iff]
            exact ⟨fun h => V.int.inj h, fun h => congrArg V.int h⟩
          rw [ev]
          cases hg : !decide (d.2 = 0) with
          | true => exact iteT ⟨_, rfl, _, rfl, by show 2 ≤ sizeLine; decide, fun t ht => k1 hg _ _ (Ex.new ht) ⟨t, rfl, upd_same⟩⟩
          | false => exact iteF (k2 hg _ (Ex.refl _))
        · refine ⟨_, rfl, _, rfl, by show 3 ≤ sizeLine; decide, fun t1 ht1 => ⟨by show 2 ≤ sizeLine; decide, fun t2 ht2 => ?_⟩⟩
          have e10 := (e18.trans e5).trans (Ex.new (o := .tup [.str "span", .int d.1, .ref D2]) ht1)
          refine hQ t2 _ .non (.ref t1) (Evl.fresh_back e10 ht2) (e10.trans (Ex.new ht2)) upd_same ⟨fun h => absurd rfl h, fun h => ?_⟩
          unfold flatFits at h
          have h := List.all_eq_true.mp h d (List.mem_of_getElem? hd)
          rw [hs] at h
          cases h
    · obtain ⟨e, ⟨x3, x4, x5, x6, x7, x8, x9, rfl⟩, hno⟩ := h
      rw [hzl, List.take_length] at hno
      obtain ⟨us, hr7, hus⟩ := hL6
      refine ⟨_, rfl, .inl ⟨D, us, rfl, SqL.of (e _ _ hr7), fun t1 ht1 => ⟨by show 2 ≤ sizeLine; decide, fun t2 ht2 => ⟨by show 2 ≤ sizeLine; decide, fun t3 ht3 => ?_⟩⟩⟩⟩
      have e9 := (e16.trans e).trans ((Ex.new (o := .tup us) ht1).trans (Ex.new (o := .tup [.str "flat", .ref t1]) ht2))
      refine hQ t3 _ (.ref t2) .non (Evl.fresh_back e9 ht3) (e9.trans (Ex.new ht3)) upd_same ⟨fun _ => ?_, fun _ h => nomatch h⟩
      unfold flatFits
      refine List.all_eq_true.mpr fun d hd => ?_
      rw [hno d hd]
      rfl
end
end K49

namespace K49
open PySem PySem.Spec PyProof.Rows L2
section
variable {prog : Program} {w : World} {A : Around} {E : Value → Shared → Prop} {s : Shared}
theorem bounds_all (n : Nat) : sliceBounds none none none n = ((0 : Int), (n : Int), 1) := rfl
theorem setItem_all {l b sl : Addr} {items new : Array Value} {n n2 : Nat} {Q : Unit → Shared → Prop}
    (e : s.heap.get? l = some { cls := .type "list", data := .seq items n }) (e2 : s.heap.get? b = some { cls := .type "list", data := .seq new n2 }) (hne : l ≠ b)
    (hs : s.heap.IsSliceOf sl .none .none .none)
    (hsz : items.size + new.size ≤ sizeLine) (h : Q () { s with heap := s.heap.update l (Obj.mapSeq fun xs => xs.extract 0 0 ++ new ++ xs.extract items.size xs.size) }) :
    wpAny (model prog w) A (setItem (.ref l) (.ref sl) (.ref b)) Q E s := by
  have hl : s.heap.IsList l items := PySem.IsL.isList e
  have hb : s.heap.IsList b new := PySem.IsL.isList e2
  obtain ⟨os, hos, hcs, hds⟩ := id hs
  have hTs : s.TypeIs (.ref sl) "slice" := ⟨os, hos, hcs⟩
  have hstep : ¬ ((rawPart none == rawInt 0) = true) := Bool.false_ne_true
  have hsame : Builtin.List.listSameRef (.ref l) (.ref b) = false := by
    unfold Builtin.List.listSameRef
    exact beq_eq_false_iff_ne.mpr hne
  have hmax : (max (0 : Int) (items.size : Int)).toNat = items.size := by omega
  have hz' : ((fun xs : Array Value => xs.extract 0 0 ++ new ++ xs.extract items.size xs.size) items).size ≤ sizeLine + 1 := by
    simp only [Array.size_append, Array.size_extract]
    omega
  unfold setItem
  try with_reducible refine wpAny_holding ?_
  first | refine wpAny_bind (wpAny_pure ?_) | skip
  refine wpAny_bind (wpAny_sequenceKey hl.typeIs (by decide) ?_)
  refine wpAny_bind (wpAny_callSpecial?_slot (name := Str.ofString "__setitem__") hl.typeIs slot_list_setitem
    (wpAny_call_entry slot_list_setitem hl.typeIs entry_list_setitem ?_ (args_list_setitem _ _ _)))
  show wpAny _ _ (Builtin.List.listSubscript? (.ref sl) >>= _) _ _ s
  refine wpAny_bind ?_
  unfold Builtin.List.listSubscript?
  refine wpAny_bind (wpAny_specialOf hTs slice_no_index ?_)
  simp only [Option.isNone_none, if_true]
  refine wpAny_pure ?_
  show wpAny _ _ (typeOf (.ref sl) >>= _) _ _ s
  refine wpAny_bind (wpAny_typeOf hTs ?_)
  first
    | rw [if_neg (by decide)]
    | refine PySem.W.KFB.if_not (by decide) ?_
  rw [listSliceParts_eq]
  refine wpAny_bind (wpAny_bind (wpAny_field hos hds (x := .none) rfl (wpAny_bind (wpAny_listPart .none ?_))))
  rw [if_neg hstep]
  refine wpAny_bind (wpAny_field hos hds (x := .none) rfl (wpAny_bind (wpAny_listPart .none ?_)))
  refine wpAny_bind (wpAny_field hos hds (x := .none) rfl (wpAny_bind (wpAny_listPart .none (wpAny_pure ?_))))
  first
    | simp only [hsame, Bool.false_eq_true, if_false]
    | refine PySem.W.KFB.if_not hsame ?_
    | (dsimp only
       rw [if_neg (by rw [hsame]; exact Bool.false_ne_true)])
  refine wpAny_bind (m := Builtin.List.listAllItems (.ref b) "must assign iterable to extended slice") ?_
  unfold Builtin.List.listAllItems
  refine wpAny_bind (wpAny_typeOf hb.typeIs ?_)
  first
    | refine PySem.W.KFB.if_so (by decide) ?_
    | rw [if_pos (by decide)]
    | simp only [beq_self_eq_true, Bool.true_or, if_true]
  unfold Builtin.List.listItems
  refine wpAny_bind (wpAny_seqItems e2 rfl (wpAny_pure ?_))
  refine wpAny_bind (wpAny_bind (wpAny_seqItems e rfl (wpAny_pure ?_)))
  refine wpAny_bind (wpAny_of_eq ((sliceIndices_raw none none none items.size (by simp)).trans (congrArg (pure : Int × Int × Int → Sem (Int × Int × Int)) (bounds_all items.size))) ?_)
  show wpAny _ _ (if ((1 : Int) == 1) = true then _ else _) _ _ s
  rw [if_pos (by decide)]
  refine wpAny_bind (wpAny_rule ?_)
  first
    | simp only [notLongL hsz, Bool.false_eq_true, if_false]
    | refine PySem.W.KFB.if_not (notLongL hsz) ?_
  first | refine wpAny_bind (wpAny_pure ?_) | skip
  show wpAny _ _ (updateSeq l (fun xs => xs.extract 0 ((0 : Int)).toNat ++ new ++ xs.extract (max (0 : Int) (items.size : Int)).toNat xs.size) >>= _) _ _ s
  rw [hmax]
  refine wpAny_bind (wpAny_updateSeq (hz := Nat.le_trans (Nat.le_add_right _ _) hsz) (_hz' := hz') e rfl ?_)
  refine wpAny_bind (wpAny_letGo ?_)
  first
    | exact wpAny_bind (wpAny_pure (wpAny_pure ⟨.none, rfl, wpAny_pure h⟩))
    | exact wpAny_pure ⟨.none, rfl, wpAny_pure h⟩
end
section
variable {X : Cx}
theorem set_all {pins : List (Addr × Obj)} {s : Shared} {σ : L2.St} {H : Hp} {l b sl : Addr} {xs ys : List V} {Q : Unit → Shared → Prop} (I : L2.Inv X pins σ H s)
    (hH : H l = some (.lst xs)) (hB : H b = some (.lst ys)) (hne : l ≠ b) (hs : s.heap.IsSliceOf sl .none .none .none)
    (hz : xs.length + ys.length ≤ sizeLine) (h : ∀ s', L2.Inv X pins σ (upd H l (.lst ys)) s' → Q () s') :
    wpAny (model X.prog X.w) X.A (setItem (.ref l) (.ref sl) (.ref b)) Q X.xe s := by
  obtain ⟨z, its, n, r, hl, e⟩ := I.lstM hH
  obtain ⟨z2, its2, n2, r2, hl2, e2⟩ := I.lstM hB
  refine setItem_all e e2 hne hs (by rw [List.size_toArray, List.size_toArray]; omega) (h _ ?_)
  refine I.lset (its' := its2) (t' := s.toks) hH e ?_ r2 ?_
  · simp
  · omega
/-- xs[:] = the items of another list -/
def gAll (to : TE) : TG := fun v σ H Q => to σ H fun o H1 => ∃ (l b : Addr) (xs ys : List V), o = .ref l ∧ v = .ref b ∧ H1 l = some (.lst xs) ∧ H1 b = some (.lst ys) ∧ l ≠ b ∧ xs.length + ys.length ≤ sizeLine ∧ Q σ (upd H1 l (.lst ys))
theorem pg_all {o : Expr} {to : TE} {p2 pos : Pos} (ho : PE X o to)
    (ha : ∀ v, assign (.Subscript o (.Slice none none none p2) pos) X.env v = (do
      let ov ← holding [v] (eval o X.env)
      let iv ← holding [v, ov] (eval (.Slice none none none p2) X.env)
      standAt pos
      holding [v, ov, iv] (setItem ov iv v)
      release [iv, v, ov] []) := by intro _; rfl) : PG X (.Subscript o (.Slice none none none p2) pos) (gAll to) := by
  refine ⟨fun pins s σ H v u Q I r h => ?_⟩
  rw [ha]
  refine wpAny_bind (wpAny_holding (thn (ho.run pins s σ H _ I h) fun ov s1 ⟨x, H1, I1, r1, q1⟩ => ?_))
  obtain ⟨l, b, xs, ys, rfl, rfl, hl, hb, hne, hz, q⟩ := q1
  cases r
  cases r1
  refine wpAny_bind (wpAny_holding (wpAny_Slice ?_))
  simp only [evalPart_none]
  refine wpAny_pure (wpAny_pure (wpAny_pure ?_))
  have I2 : L2.Inv X pins σ H1 { s1 with heap := s1.heap.push { cls := .type "slice", data := .fields #[.none, .none, .none] } } := I1.kept (t' := s1.toks) fun b ob q => Heap.get?_push_of_some _ q
  refine wpAny_bind (wpAny_standAt (wpAny_bind (wpAny_holding (set_all I2 hl hb hne (Heap.IsSliceOf.new ..) hz fun s3 I3 => ?_))))
  exact wpAny_release ⟨σ, _, I3, q⟩
end
end K49

namespace K49
open PySem PySem.Spec PyProof.Rows L2
open C8 (Cal Met Mak pe_c pe_mk pe_mt pe_mt0 pe_gc)
open Evl (Ex)
def clr (r h : List Int) (c : Nat) (sc : Int) : List Int := (r.zip h).map fun d => (d.1 * h.getD c 0 - r.getD c 0 * d.2).fdiv sc
theorem clr_len {r h : List Int} (e : r.length = h.length) (c : Nat) (sc : Int) : (clr r h c sc).length = r.length := by
  unfold clr
  rw [List.length_map, List.length_zip, e, Nat.min_self]
theorem clr_bnd {n : Nat} {r h : List Int} {c : Nat} {sc : Int} (hn : 1 ≤ n) (hr : RowB n r) (hh : RowB n h) : RowB (2 * n + 2) (clr r h c sc) := fun x hx => by
  obtain ⟨d, hd, rfl⟩ := List.mem_map.mp hx
  have h1 := hr d.1 (List.of_mem_zip hd).1
  have h2 := hh d.2 (List.of_mem_zip hd).2
  exact (fdiv_bnd (((h1.mul (hh.getD hn c)).sub ((hr.getD hn c).mul h2)).mono (show n + n + 1 ≤ 2 * n + 1 by omega)))
theorem clr_get {r h : List Int} {c j : Nat} {sc : Int} (e : r.length = h.length) (hj : j < r.length) : (clr r h c sc).getD j 0 = (r.getD j 0 * h.getD c 0 - r.getD c 0 * h.getD j 0).fdiv sc := by
  have hj2 : j < h.length := by omega
  unfold clr
  simp [List.getD, List.getElem?_map, List.getElem?_zip_eq_some, List.getElem?_eq_getElem hj, List.getElem?_eq_getElem hj2, List.zip, List.getElem?_zipWith]
def spClr (C : Addr) : Sp := fun vs H Q _ => ∃ (x dx : Addr) (fs : List (Str × V)) (v h : V) (c : Nat) (r hd : List Int) (sc : Int) (n : Nat), vs = [.ref x, v, h, .int c] ∧ H x = some (.ins C dx fs) ∧ List.lookup ("scale" : Str) fs = some (V.int sc) ∧ sc ≠ 0 ∧ sc.natAbs.log2 < 9000 ∧
  IsRw H v r ∧ IsRw H h hd ∧ c < r.length ∧ r.length = hd.length ∧ r.length ≤ 1000 ∧ 1 ≤ n ∧ n ≤ 4000 ∧ RowB n r ∧ RowB n hd ∧
  ∀ p H', H p = none → Ex H H' → H' p = some (.lst ((clr r hd c sc).map V.int)) → Q (.ref p) H'
/-- a row: a list of ints that is none of M -/
def IsRwM (M : List Addr) : Hp → V → List Int → Prop := fun H v r => ∃ a, v = .ref a ∧ a ∉ M ∧ H a = some (.lst (r.map V.int))
theorem sst_RwM (M : List Addr) : Sst (IsRwM M) := fun _ _ _ _ e h => by
  obtain ⟨a, h1, h2, h3⟩ := h
  exact ⟨a, h1, h2, e _ _ h3⟩
theorem RwM_upd {M : List Addr} {H : Hp} {l : Addr} {o : HO} (hl : l ∈ M) {v : V} {r : List Int} (h : IsRwM M H v r) : IsRwM M (upd H l o) v r := by
  obtain ⟨a, h1, h2, h3⟩ := h
  exact ⟨a, h1, h2, by rw [upd_ne (fun (e : a = l) => h2 (by rw [e]; exact hl))]; exact h3⟩
theorem Paired.imp' {γ δ : Type} {F G : γ → δ → Prop} (h : ∀ x d, F x d → G x d) : ∀ {l : List γ} {m : List δ}, Paired F l m → Paired G l m
  | _, _, .nil => .nil
  | _, _, .cons r t => .cons (h _ _ r) (Paired.imp' h t)
/-- a table's fields -/
def TF (n : Nat) (sa ra ba : Addr) (sc : Int) : List (Str × V) := [("many", .int n), ("signs", .ref sa), ("rows", .ref ra), ("basis", .ref ba), ("scale", .int sc)]
theorem TF_many (n : Nat) (sa ra ba : Addr) (sc : Int) : List.lookup ("many" : Str) (TF n sa ra ba sc) = some (V.int n) := by with_unfolding_all rfl
theorem TF_signs (n : Nat) (sa ra ba : Addr) (sc : Int) : List.lookup ("signs" : Str) (TF n sa ra ba sc) = some (V.ref sa) := by with_unfolding_all rfl
theorem TF_rows (n : Nat) (sa ra ba : Addr) (sc : Int) : List.lookup ("rows" : Str) (TF n sa ra ba sc) = some (V.ref ra) := by with_unfolding_all rfl
theorem TF_basis (n : Nat) (sa ra ba : Addr) (sc : Int) : List.lookup ("basis" : Str) (TF n sa ra ba sc) = some (V.ref ba) := by with_unfolding_all rfl
theorem TF_scale (n : Nat) (sa ra ba : Addr) (sc : Int) : List.lookup ("scale" : Str) (TF n sa ra ba sc) = some (V.int sc) := by with_unfolding_all rfl
theorem TF_cleared (n : Nat) (sa ra ba : Addr) (sc : Int) : List.lookup ("cleared" : Str) (TF n sa ra ba sc) = none := by with_unfolding_all rfl
theorem TF_pivot (n : Nat) (sa ra ba : Addr) (sc : Int) : List.lookup ("pivot" : Str) (TF n sa ra ba sc) = none := by with_unfolding_all rfl
theorem TF_leaving (n : Nat) (sa ra ba : Addr) (sc : Int) : List.lookup ("leaving" : Str) (TF n sa ra ba sc) = none := by with_unfolding_all rfl
theorem TF_improve (n : Nat) (sa ra ba : Addr) (sc : Int) : List.lookup ("improve" : Str) (TF n sa ra ba sc) = none := by with_unfolding_all rfl
theorem TF_leave (n : Nat) (sa ra ba : Addr) (sc : Int) : List.lookup ("leave_artificial" : Str) (TF n sa ra ba sc) = none := by with_unfolding_all rfl
theorem TF_put_rows (n : Nat) (sa ra ba r' : Addr) (sc : Int) : putF "rows" (.ref r') (TF n sa ra ba sc) = TF n sa r' ba sc := by with_unfolding_all rfl
theorem TF_put_scale (n : Nat) (sa ra ba : Addr) (sc s' : Int) : putF "scale" (.int s') (TF n sa ra ba sc) = TF n sa ra ba s' := by with_unfolding_all rfl
/-- a table at x beside the goal's row at g; H0 knows none of its parts -/
structure TB (C : Addr) (H0 : Hp) (n : Nat) (x g sa : Addr) (rows : List (List Int)) (bs : List Nat) (sc : Int) (goal : List Int) (H : Hp) : Prop where
  ex : Ex H0 H
  st : ∃ dx ra ba xs, H x = some (.ins C dx (TF n sa ra ba sc)) ∧ H ra = some (.lst xs) ∧ All (IsRwM [x, ra, ba, g]) H xs rows ∧ H ba = some (.lst (bs.map fun b => V.int (b : Nat))) ∧ H g = some (.lst (goal.map V.int)) ∧
    ra ≠ ba ∧ ra ≠ g ∧ ba ≠ g ∧ H0 x = none ∧ H0 ra = none ∧ H0 ba = none ∧ H0 g = none
theorem iteB {b : Bool} {A B : Prop} (h1 : b = true → A) (h2 : b = false → B) : if b = true then A else B := by
  cases b
  · exact h2 rfl
  · exact h1 rfl
theorem at_m1 {r : List Int} {L : Nat} (h : r.length = L + 1) : atI (r.map V.int) (-1) = some (.int (r.getD L 0)) := by
  obtain ⟨r0, rl, rfl⟩ : ∃ r0 rl, r = r0 ++ [rl] := by
    have hne : r ≠ [] := fun e => by rw [e] at h; simp at h
    exact ⟨_, _, (List.dropLast_concat_getLast hne).symm⟩
  have h0 : r0.length = L := by simpa using h
  rw [List.map_append]
  have e : (r0 ++ [rl]).getD L 0 = rl := by simp [List.getD, ← h0]
  rw [e]
  exact atI_last _ _
theorem at_N {bs : List Nat} {i : Nat} (h : i < bs.length) : atI (bs.map fun b => V.int (b : Nat)) (i : Int) = some (.int ((bs.getD i 0 : Nat) : Int)) := by
  refine atI_nat ?_
  rw [List.getElem?_map, List.getElem?_eq_getElem h]
  simp [List.getD, List.getElem?_eq_getElem h]
/-- the entry at a place of the table -/
def tAt (rows : List (List Int)) (i j : Nat) : Int := (rows.getD i []).getD j 0
/-- of the first k rows, row r has the least ratio, then the least number -/
structure Least (rows : List (List Int)) (bs : List Nat) (c L k r : Nat) : Prop where
  lt : r < k
  pos : 0 < tAt rows r c
  least : ∀ i, i < k → 0 < tAt rows i c → tAt rows r L * tAt rows i c ≤ tAt rows i L * tAt rows r c
  tie : ∀ i, i < k → 0 < tAt rows i c → tAt rows r L * tAt rows i c = tAt rows i L * tAt rows r c → bs.getD r 0 ≤ bs.getD i 0
theorem Least.keep {rows : List (List Int)} {bs : List Nat} {c L k r : Nat} (h : Least rows bs c L k r) (z : ¬ 0 < tAt rows k c) : Least rows bs c L (k + 1) r := by
  refine ⟨Nat.lt_succ_of_lt h.lt, h.pos, fun i hi hp => ?_, fun i hi hp he => ?_⟩
  · rcases Nat.lt_or_ge i k with q | q
    · exact h.least i q hp
    · obtain rfl : i = k := by omega
      exact absurd hp z
  · rcases Nat.lt_or_ge i k with q | q
    · exact h.tie i q hp he
    · obtain rfl : i = k := by omega
      exact absurd hp z
theorem Least.stay {rows : List (List Int)} {bs : List Nat} {c L k r : Nat} (h : Least rows bs c L k r) (z1 : ¬ tAt rows k L * tAt rows r c < tAt rows r L * tAt rows k c)
    (z2 : tAt rows k L * tAt rows r c = tAt rows r L * tAt rows k c → ¬ bs.getD k 0 < bs.getD r 0) : Least rows bs c L (k + 1) r := by
  refine ⟨Nat.lt_succ_of_lt h.lt, h.pos, fun i hi hp => ?_, fun i hi hp he => ?_⟩
  · rcases Nat.lt_or_ge i k with q | q
    · exact h.least i q hp
    · obtain rfl : i = k := by omega
      omega
  · rcases Nat.lt_or_ge i k with q | q
    · exact h.tie i q hp he
    · obtain rfl : i = k := by omega
      have := z2 he.symm
      omega
theorem Least.go {rows : List (List Int)} {bs : List Nat} {c L k r : Nat} (h : Least rows bs c L k r) (hk : 0 < tAt rows k c)
    (z : tAt rows k L * tAt rows r c < tAt rows r L * tAt rows k c ∨ tAt rows k L * tAt rows r c = tAt rows r L * tAt rows k c ∧ bs.getD k 0 < bs.getD r 0) : Least rows bs c L (k + 1) k := by
  have hr := h.pos
  have hle : tAt rows k L * tAt rows r c ≤ tAt rows r L * tAt rows k c := by rcases z with z | z <;> omega
  have key : ∀ i, 0 < tAt rows i c → tAt rows r L * tAt rows i c ≤ tAt rows i L * tAt rows r c → tAt rows k L * tAt rows i c ≤ tAt rows i L * tAt rows k c ∧
      (tAt rows k L * tAt rows i c = tAt rows i L * tAt rows k c → tAt rows k L * tAt rows r c = tAt rows r L * tAt rows k c ∧ tAt rows r L * tAt rows i c = tAt rows i L * tAt rows r c) := fun i hp h2 => by
    have a1 := Int.mul_le_mul_of_nonneg_right hle (Int.le_of_lt hp)
    have a2 := Int.mul_le_mul_of_nonneg_right h2 (Int.le_of_lt hk)
    have e1 : tAt rows k L * tAt rows r c * tAt rows i c = tAt rows k L * tAt rows i c * tAt rows r c := by grind
    have e2 : tAt rows r L * tAt rows k c * tAt rows i c = tAt rows r L * tAt rows i c * tAt rows k c := by grind
    have e3 : tAt rows i L * tAt rows r c * tAt rows k c = tAt rows i L * tAt rows k c * tAt rows r c := by grind
    have q0 : tAt rows k L * tAt rows i c * tAt rows r c ≤ tAt rows i L * tAt rows k c * tAt rows r c := by omega
    refine ⟨Int.le_of_mul_le_mul_right q0 hr, fun he => ?_⟩
    rw [← he] at e3
    refine ⟨?_, ?_⟩
    · have q : tAt rows k L * tAt rows r c * tAt rows i c = tAt rows r L * tAt rows k c * tAt rows i c := by omega
      exact Int.eq_of_mul_eq_mul_right (by omega) q
    · have q : tAt rows r L * tAt rows i c * tAt rows k c = tAt rows i L * tAt rows r c * tAt rows k c := by omega
      exact Int.eq_of_mul_eq_mul_right (by omega) q
  refine ⟨Nat.lt_succ_self _, hk, fun i hi hp => ?_, fun i hi hp he => ?_⟩
  · rcases Nat.lt_or_ge i k with q | q
    · exact (key i hp (h.least i q hp)).1
    · obtain rfl : i = k := by omega
      exact Int.le_refl _
  · rcases Nat.lt_or_ge i k with q | q
    · obtain ⟨q1, q2⟩ := (key i hp (h.least i q hp)).2 he
      have := h.tie i q hp q2
      rcases z with z | z <;> omega
    · obtain rfl : i = k := by omega
      exact Nat.le_refl _
def spLeave (C : Addr) : Sp := fun vs H Q _ => ∃ (x dx ra ba : Addr) (fs : List (Str × V)) (c L n : Nat) (rows : List (List Int)) (bs : List Nat), vs = [.ref x, .int c] ∧ H x = some (.ins C dx fs) ∧ List.lookup ("rows" : Str) fs = some (V.ref ra) ∧ List.lookup ("basis" : Str) fs = some (V.ref ba) ∧
  Ls IsRw H ra rows ∧ H ba = some (.lst (bs.map fun b => V.int (b : Nat))) ∧ bs.length = rows.length ∧ (∀ r ∈ rows, r.length = L + 1 ∧ RowB n r) ∧ c ≤ L ∧ rows.length ≤ 1000 ∧ 1 ≤ n ∧ n ≤ 4000 ∧
  ((∀ i, i < rows.length → ¬ 0 < tAt rows i c) → RV .non H Q) ∧ (∀ r : Nat, Least rows bs c L rows.length r → RV (.int r) H Q)
/-- the new state after a pivot -/
def headOf (rows : List (List Int)) (r c : Nat) : List Int := if (rows.getD r []).getD c 0 < 0 then (rows.getD r []).map (fun x => -x) else rows.getD r []
def pivRows (rows : List (List Int)) (r c : Nat) (sc : Int) : List (List Int) := rows.zipIdx.map fun d => if d.2 = r then headOf rows r c else clr d.1 (headOf rows r c) c sc
section
variable {P : Program} {w : World} {K : PySem.W.Frag} {mg : Str → Option Value} {base : Heap}
theorem sc_Table_cleared : FnScope ["self", "row", "head", "column", "entry", "other"] ["self", "row", "head", "column"] (defScope s_Table_cleared) := C8.fnScope_by (by decide +kernel)
theorem met_Table_cleared {C : Addr} (T : Txt mg) (D : Mth K C "cleared" "Table.cleared" s_Table_cleared ["self", "row", "head", "column"] [])
    (nS : NoAttr K C "scale") : Met P w K mg base (1) C "cleared" (spClr C) [] := by
  have nd := sc_Table_cleared.nd
  refine D.met sc_Table_cleared (fun vs H Q E h => by obtain ⟨x, dx, fs, v, h, c, r, hd, sc, n, rfl, hx, hsc, hs0, hs1, hv, hh, hc, hl, hl2, hn, hn2, hb1, hb2, hQ⟩ := h; rfl) (fun f cdv A outer s H vs Q E hr h => ?_)
  obtain ⟨x, dx, fs, v, h, c, r, hd, sc, n, rfl, hx, hsc, hs0, hs1, hv, hh, hc, hl, hl2, hn, hn2, hb1, hb2, hQ⟩ := h
  refine ⟨_, (pss_one (ps_ret (pe_lc rfl nd (kpi_zip K rfl T.b_zip (pa_cons (pv 1) (pa_cons (pv 2) pa_nil))) (blkOk_by (own := [("entry", 4), ("other", 5)]) (N := ["self", "row", "head", "column", "entry", "other"]) (sc := defScope s_Table_cleared) (by decide +kernel)) (fun _ _ _ _ _ => (kpg_tup K 2 rfl (pgs_cons (pg_name (i := 4) nd rfl (Or.inl rfl)) (pgs_cons (pg_name (i := 5) nd rfl (Or.inl rfl)) pgs_nil)))) (fun _ _ _ _ _ => pts_nil) (fun _ _ _ _ _ => (pe_op op_fdivX (pe_op op_sub (pe_op op_mulW (pv 4) (pe_ix (kix_list K) (pv 2) (pv 3) (fun _ _ => rfl))) (pe_op op_mulW (pe_ix (kix_list K) (pv 1) (pv 3) (fun _ _ => rfl)) (pv 5))) (kpe_fld K (pv 0) rfl)))))), ?_⟩
  obtain ⟨a, rfl, ha⟩ := hv
  obtain ⟨b, rfl, hb⟩ := hh
  refine ⟨_, rfl, _, rfl, a, b, _, _, rfl, SqL.of ha, SqL.of hb, fun F hF => lc_data (r.zip hd) (fun _ => true) IsI (fun d => (d.1 * hd.getD c 0 - r.getD c 0 * d.2).fdiv sc) (Y := YPair (fun i => (r.map V.int)[i]?) (fun i => (hd.map V.int)[i]?)) (G := fun H => SqL K H a (r.map V.int) ∧ SqL K H b (hd.map V.int)) (walk_zip (by rw [List.length_zip, List.length_map, List.length_map])) tst_I (by rw [List.length_zip]; omega) hF (fun H e => ⟨SqL.of (e _ _ ha), SqL.of (e _ _ hb)⟩) (fun i x H H' h => by obtain ⟨T1, y1, y2, _, hT, rfl, _⟩ := h; exact Ex.new hT) (fun j d z H9 H5 hd' e5 hz' Ky Kn k1 k2 => ?_) (fun H5 e5 hLs => ?_)⟩
  · obtain ⟨T1, y1, y2, rfl, hT, rfl, q1, q2⟩ := hz'
    have q1 : (r.map V.int)[j]? = some y1 := q1
    have q2 : (hd.map V.int)[j]? = some y2 := q2
    obtain ⟨h1, h2⟩ := List.getElem?_zip_eq_some.mp hd'
    rw [List.getElem?_map, h1] at q1
    rw [List.getElem?_map, h2] at q2
    obtain rfl := Option.some.inj q1
    obtain rfl := Option.some.inj q2
    have eT := e5.trans (Ex.new (o := .tup [.int d.1, .int d.2]) hT)
    have b1 := hb1 d.1 (List.mem_of_getElem? h1)
    have b2 := hb2 d.2 (List.mem_of_getElem? h2)
    refine ⟨T1, _, rfl, SqT.of upd_same, rfl, _, _, rfl, _, _, rfl, rfl, rfl, ?_⟩
    refine ⟨_, rfl, _, rfl, _, rfl, b, _, c, _, rfl, rfl, SqL.of (eT _ _ hb), at_L (by omega), _, _, rfl, rfl, b1.mulW (hb2.getD hn c) (by omega), ?_⟩
    refine ⟨_, rfl, _, rfl, a, _, c, _, rfl, rfl, SqL.of (eT _ _ ha), at_L hc, _, rfl, _, _, rfl, rfl, (hb1.getD hn c).mulW b2 (by omega), _, _, rfl, rfl, ?_⟩
    refine ⟨_, rfl, x, C, dx, fs, _, rfl, eT _ _ hx, D.cl, nS, hsc, ?_⟩
    exact ⟨_, sc, rfl, rfl, ⟨hs0, hs1⟩, k1 rfl _ _ (Ex.refl _) rfl⟩
  · rw [filter_all] at hLs
    have hLi := ls_I hLs
    exact hQ F H5 hF e5 hLi
theorem sc_Table_leaving : FnScope ["self", "column", "best", "at", "row", "one", "other"] ["self", "column"] (defScope s_Table_leaving) := C8.fnScope_by (by decide +kernel)
theorem met_Table_leaving {C : Addr} (T : Txt mg) (D : Mth K C "leaving" "Table.leaving" s_Table_leaving ["self", "column"] [])
    (nR : NoAttr K C "rows") (nB : NoAttr K C "basis") : Met P w K mg base (1) C "leaving" (spLeave C) [] := by
  have nd := sc_Table_leaving.nd
  refine D.met sc_Table_leaving (fun vs H Q E h => by obtain ⟨x, dx, ra, ba, fs, c, L, n, rows, bs, rfl, hx, hfr, hfb, hR, hB, hbl, hrw, hcL, hm, hn, hn2, hQ0, hQ1⟩ := h; rfl) (fun f cdv A outer s H vs Q E hr h => ?_)
  obtain ⟨x, dx, ra, ba, fs, c, L, n, rows, bs, rfl, hx, hfr, hfb, hR, hB, hbl, hrw, hcL, hm, hn, hn2, hQ0, hQ1⟩ := h
  refine ⟨_, (pss_cons (ps_set (i := 2) nd rfl (Or.inl rfl) pe_non)
      (pss_cons (ps_for PassesOwn.never rfl (kpi_enum K rfl T.b_enumerate (pa_cons (kpe_fld K (pv 0) rfl) pa_nil)) (kpg_tup K 2 rfl (pgs_cons (pg_name (i := 3) nd rfl (Or.inl rfl)) (pgs_cons (pg_name (i := 4) nd rfl (Or.inl rfl)) pgs_nil))) (pss_one (ps_if (pt_cmpR op_gt (pe_ix (kix_list K) (pv 4) (pv 1) (fun _ _ => rfl)) pe_int (nomark _)) (pss_cons (ps_if (pt_cmpR op_isN1 (pv 2) pe_non (nomark _)) (pss_cons (ps_set (i := 2) nd rfl (Or.inl rfl) (pv 3))
      (pss_one ps_continue)) pss_nil)
      (pss_cons (ps_par (i := 5) (j := 6) rfl nd rfl rfl (by decide) rfl rfl (pa_cons (pe_op op_mulW (pe_ix (kix_list K) (pv 4) (pe_un un_neg pe_int) (fun _ _ => rfl)) (pe_ix (kix_list K) (pe_ix (kix_list K) (kpe_fld K (pv 0) rfl) (pv 2) (fun _ _ => rfl)) (pv 1) (fun _ _ => rfl))) (pa_cons (pe_op op_mulW (pe_ix (kix_list K) (pe_ix (kix_list K) (kpe_fld K (pv 0) rfl) (pv 2) (fun _ _ => rfl)) (pe_un un_neg pe_int) (fun _ _ => rfl)) (pe_ix (kix_list K) (pv 4) (pv 1) (fun _ _ => rfl))) pa_nil)) rfl)
      (pss_one (ps_if (PW.pt (pw_or (pt_cmpR op_lt (pv 5) (pv 6) (nomark _)) (pw_or1 (PW.pt (pw_and (pt_cmpR op_eq (pv 5) (pv 6) (nomark _)) (pw_and1 (pt_cmpR op_lt (pe_ix (kix_list K) (kpe_fld K (pv 0) rfl) (pv 3) (fun _ _ => rfl)) (pe_ix (kix_list K) (kpe_fld K (pv 0) rfl) (pv 2) (fun _ _ => rfl)) (nomark _)))))))) (pss_one (ps_set (i := 2) nd rfl (Or.inl rfl) (pv 3))) pss_nil)))) pss_nil)))
      (pss_one (ps_ret (pv 2))))), ?_⟩
  obtain ⟨xs, hra, hxs⟩ := hR
  have hxl := hxs.length
  have row : ∀ (i : Nat) (y : V), xs[i]? = some y → ∃ b, y = .ref b ∧ H b = some (.lst ((rows.getD i []).map V.int)) ∧ (rows.getD i []).length = L + 1 ∧ RowB n (rows.getD i []) ∧ i < rows.length := fun i y hy => by
    obtain ⟨r, hr, b, rfl, hb⟩ := paired_of hxs hy
    have e : rows.getD i [] = r := by simp [List.getD, hr]
    rw [e]
    exact ⟨b, rfl, hb, (hrw r (List.mem_of_getElem? hr)).1, (hrw r (List.mem_of_getElem? hr)).2, (List.getElem?_eq_some_iff.mp hr).1⟩
  have hrb : ∀ i, i < rows.length → ∃ y, xs[i]? = some y := fun i hi => ⟨xs[i], List.getElem?_eq_getElem (by omega)⟩
  refine ⟨_, rfl, ?_⟩
  refine ⟨x, C, dx, fs, _, rfl, hx, D.cl, nR, hfr, ra, xs, rfl, SqL.of hra, for_it (walk_enum (xs := xs)) (fun k σ H' => Ex H H' ∧ ∃ bv x3 x4 x5 x6, σ = [some (.ref x), some (.int c), some bv, x3, x4, x5, x6] ∧ ((bv = .non ∧ ∀ i, i < k → ¬ 0 < tAt rows i c) ∨ ∃ r : Nat, bv = .int r ∧ Least rows bs c L k r)) ⟨Ex.refl _, _, _, _, _, _, rfl, .inl ⟨rfl, fun i hi => by omega⟩⟩ (fun k σ H' _ h => SqL.of (h.1 _ _ hra)) (fun k y σ H9 H' hk h hy => ?_) (fun σ H' h => ?_)⟩
  · obtain ⟨e, bv, x3, x4, x5, x6, rfl, hbv⟩ := h
    obtain ⟨T1, y1, y2, rfl, hT, rfl, q1, q2⟩ := hy
    obtain rfl := Option.some.inj q1
    have q2 : xs[k]? = some y2 := q2
    obtain ⟨b, rfl, hb, hbl2, hbb, hkm⟩ := row k y2 q2
    have eT := e.trans (Ex.new (o := .tup [.int (k : Nat), .ref b]) hT)
    refine ⟨T1, _, rfl, SqT.of upd_same, rfl, _, _, rfl, _, _, rfl, rfl, ?_⟩
    have hq : (upd H9 T1 (.tup [.int (k : Nat), .ref b])) T1 = some (.tup [.int (k : Nat), .ref b]) := upd_same
    generalize upd H9 T1 (.tup [.int (k : Nat), .ref b]) = HT at eT hq ⊢
    have hbT := eT _ _ hb
    have hxT := eT _ _ hx
    have hraT := eT _ _ hra
    have hbaT := eT _ _ hB
    refine ⟨_, rfl, _, rfl, b, _, c, _, rfl, rfl, SqL.of hbT, at_L (by omega), _, _, rfl, rfl, _, rfl, ?_⟩
    refine iteB (b := decide (0 < tAt rows k c)) (fun hg => ?_) (fun hg => ?_)
    · have hg2 := of_decide_eq_true hg
      rcases hbv with ⟨rfl, hno⟩ | ⟨r, rfl, hl⟩
      · refine ⟨_, rfl, rfl, _, rfl, iteT ⟨_, rfl, eT, _, _, _, _, _, rfl, .inr ⟨k, rfl, Nat.lt_succ_self _, hg2, fun i hi hp => ?_, fun i hi hp _ => ?_⟩⟩⟩
        · rcases Nat.lt_or_ge i k with q | q
          · exact absurd hp (hno i q)
          · obtain rfl : i = k := by omega
            exact Int.le_refl _
        · rcases Nat.lt_or_ge i k with q | q
          · exact absurd hp (hno i q)
          · obtain rfl : i = k := by omega
            exact Nat.le_refl _
      · have hrm : r < rows.length := by have := hl.lt; omega
        obtain ⟨y, hy⟩ := hrb r hrm
        obtain ⟨br, rfl, hbr, hbrl, hbrb, _⟩ := row r y hy
        have hbrT := eT _ _ hbr
        refine ⟨_, rfl, rfl, _, rfl, iteF ?_⟩
        refine ⟨_, rfl, 1, rfl, b, _, -1, _, rfl, rfl, SqL.of hbT, at_m1 hbl2, ?_⟩
        refine ⟨_, rfl, x, C, dx, fs, _, rfl, hxT, D.cl, nR, hfr, _, rfl, ra, xs, r, .ref br, rfl, rfl, SqL.of hraT, atI_nat hy, _, rfl, br, _, c, _, rfl, rfl, SqL.of hbrT, at_L (by omega), _, _, rfl, rfl, (hbb.getD hn L).mulW (hbrb.getD hn c) (by omega), ?_⟩
        refine ⟨_, rfl, x, C, dx, fs, _, rfl, hxT, D.cl, nR, hfr, _, rfl, ra, xs, r, .ref br, rfl, rfl, SqL.of hraT, atI_nat hy, 1, rfl, br, _, -1, _, rfl, rfl, SqL.of hbrT, at_m1 hbrl, ?_⟩
        refine ⟨_, rfl, _, rfl, b, _, c, _, rfl, rfl, SqL.of hbT, at_L (by omega), _, _, rfl, rfl, (hbrb.getD hn L).mulW (hbb.getD hn c) (by omega), _, _, rfl, ?_⟩
        refine ⟨_, rfl, _, rfl, _, _, rfl, rfl, _, rfl, ?_⟩
        refine iteB (b := decide (tAt rows k L * tAt rows r c < tAt rows r L * tAt rows k c)) (fun h1 => ?_) (fun h1 => ?_)
        · exact iteT ⟨_, rfl, eT, _, _, _, _, _, rfl, .inr ⟨k, rfl, hl.go hg2 (.inl (of_decide_eq_true h1))⟩⟩
        · have h1 := of_decide_eq_false h1
          refine ⟨_, rfl, _, rfl, rfl, _, rfl, ?_⟩
          refine iteB (b := decide (V.int (tAt rows k L * tAt rows r c) = V.int (tAt rows r L * tAt rows k c))) (fun h2 => ?_) (fun h2 => ?_)
          · have h2 : tAt rows k L * tAt rows r c = tAt rows r L * tAt rows k c := V.int.inj (of_decide_eq_true h2)
            refine ⟨_, rfl, x, C, dx, fs, _, rfl, hxT, D.cl, nB, hfb, _, rfl, ba, _, k, _, rfl, rfl, SqL.of hbaT, at_N (by omega), ?_⟩
            refine ⟨_, rfl, x, C, dx, fs, _, rfl, hxT, D.cl, nB, hfb, _, rfl, ba, _, r, _, rfl, rfl, SqL.of hbaT, at_N (by omega), _, _, rfl, rfl, _, rfl, ?_⟩
            refine iteB (b := decide (((bs.getD k 0 : Nat) : Int) < ((bs.getD r 0 : Nat) : Int))) (fun h3 => ?_) (fun h3 => ?_)
            · have h3 := of_decide_eq_true h3
              exact ⟨_, rfl, eT, _, _, _, _, _, rfl, .inr ⟨k, rfl, hl.go hg2 (.inr ⟨h2, by omega⟩)⟩⟩
            · have h3 := of_decide_eq_false h3
              exact ⟨eT, _, _, _, _, _, rfl, .inr ⟨r, rfl, hl.stay h1 (fun _ => by omega)⟩⟩
          · have h2 := of_decide_eq_false h2
            exact iteF ⟨eT, _, _, _, _, _, rfl, .inr ⟨r, rfl, hl.stay h1 (fun h => absurd (congrArg V.int h) h2)⟩⟩
    · have hg2 := of_decide_eq_false hg
      refine ⟨eT, bv, _, _, _, _, rfl, ?_⟩
      rcases hbv with ⟨rfl, hno⟩ | ⟨r, rfl, hl⟩
      · exact .inl ⟨rfl, fun i hi => by
          rcases Nat.lt_or_ge i k with q | q
          · exact hno i q
          · obtain rfl : i = k := by omega
            exact hg2⟩
      · exact .inr ⟨r, rfl, hl.keep hg2⟩
  · obtain ⟨e, bv, x3, x4, x5, x6, rfl, hbv⟩ := h
    rw [hxl] at hbv
    rcases hbv with ⟨rfl, hno⟩ | ⟨r, rfl, hl⟩
    · exact ⟨_, rfl, hQ0 hno H' e⟩
    · exact ⟨_, rfl, hQ1 r hl H' e⟩
end
end K49

namespace K49
open PySem PySem.Spec PyProof.Rows L2
open C8 (Cal Met Mak pe_c pe_mk pe_mt pe_mt0 pe_gc)
open Evl (Ex)
def spPivot (C : Addr) : Sp := fun vs H Q _ => ∃ (H0 : Hp) (n : Nat) (x g sa : Addr) (rows : List (List Int)) (bs : List Nat) (sc : Int) (goal : List Int) (r c L B : Nat), vs = [.ref x, .int r, .ref g, .int c] ∧ TB C H0 n x g sa rows bs sc goal H ∧
  r < rows.length ∧ bs.length = rows.length ∧ c < L ∧ sc ≠ 0 ∧ Bnd B sc ∧ (∀ row ∈ rows, row.length = L ∧ RowB B row) ∧ goal.length = L ∧ RowB B goal ∧ 1 ≤ B ∧ B ≤ 4000 ∧ rows.length ≤ 1000 ∧ L ≤ 1000 ∧
  ∀ H', TB C H0 n x g sa (pivRows rows r c sc) (bs.set r c) ((headOf rows r c).getD c 0) (clr goal (headOf rows r c) c sc) H' → Q .non H'
theorem pivRows_set {rows : List (List Int)} {r c : Nat} {sc : Int} (hr : r < rows.length) : ((rows.set r (headOf rows r c)).zipIdx.map fun d => if d.2 = r then d.1 else clr d.1 (headOf rows r c) c sc) = pivRows rows r c sc := by
  unfold pivRows
  refine List.ext_getElem (by simp) fun i h1 h2 => ?_
  simp only [List.getElem_map, List.getElem_zipIdx, Nat.zero_add]
  by_cases e : i = r
  · subst e
    simp
  · rw [if_neg e, if_neg e, List.getElem_set_ne (Ne.symm e)]
theorem getD_of_lt {α : Type} {l : List α} {i : Nat} {d : α} (h : i < l.length) : l[i]? = some (l.getD i d) := by simp [List.getD, List.getElem?_eq_getElem h]
theorem set_getD {α : Type} {l : List α} {i : Nat} {d : α} : l.set i (l.getD i d) = l := by
  refine List.ext_getElem? fun j => ?_
  rw [List.getElem?_set]
  split
  · rename_i h
    subst h
    split
    · rename_i h
      simp [List.getD, List.getElem?_eq_getElem h]
    · rename_i h
      rw [List.getElem?_eq_none (by omega)]
  · rfl
section
variable {P : Program} {w : World} {K : PySem.W.Frag} {mg : Str → Option Value} {base : Heap}
theorem sc_Table_pivot : FnScope ["self", "at", "goal", "column", "head", "entry", "k", "row"] ["self", "at", "goal", "column"] (defScope s_Table_pivot) := C8.fnScope_by (by decide +kernel)
theorem met_Table_pivot {C : Addr} (T : Txt mg) (D : Mth K C "pivot" "Table.pivot" s_Table_pivot ["self", "at", "goal", "column"] [])
    (nS : NoAttr K C "scale") (nR : NoAttr K C "rows") (nB : NoAttr K C "basis") (M_cleared : Met P w K mg base 1 C "cleared" (spClr C) []) : Met P w K mg base (2) C "pivot" (spPivot C) [] := by
  have nd := sc_Table_pivot.nd
  refine D.met sc_Table_pivot (fun vs H Q E h => by obtain ⟨H0, n, x, g, sa, rows, bs, sc, goal, r, c, L, B, rfl, hTB, hrr, hbl, hcL, hs0, hsB, hrw, hgl, hgB, hB1, hB2, hm, hL, hQ⟩ := h; rfl) (fun f cdv A outer s H vs Q E hr h => ?_)
  obtain ⟨H0, n, x, g, sa, rows, bs, sc, goal, r, c, L, B, rfl, hTB, hrr, hbl, hcL, hs0, hsB, hrw, hgl, hgB, hB1, hB2, hm, hL, hQ⟩ := h
  refine ⟨_, (pss_cons (ps_if (pt_cmpR op_lt (pe_ix (kix_list K) (pe_ix (kix_list K) (kpe_fld K (pv 0) rfl) (pv 1) (fun _ _ => rfl)) (pv 3) (fun _ _ => rfl)) pe_int (nomark _)) (pss_one (ps_asg (pe_lc rfl nd (kpi_list K (pe_ix (kix_list K) (kpe_fld K (pv 0) rfl) (pv 1) (fun _ _ => rfl))) (blkOk_by (own := [("entry", 5)]) (N := ["self", "at", "goal", "column", "head", "entry", "k", "row"]) (sc := defScope s_Table_pivot) (by decide +kernel)) (fun _ _ _ _ _ => (pg_name (i := 5) nd rfl (Or.inl rfl))) (fun _ _ _ _ _ => pts_nil) (fun _ _ _ _ _ => (pe_un un_neg (pv 5)))) (pg_sub (kpe_fld K (pv 0) rfl) (pv 1) set_list))) pss_nil)
      (pss_cons (ps_set (i := 4) nd rfl (Or.inr rfl) (pe_ix (kix_list K) (kpe_fld K (pv 0) rfl) (pv 1) (fun _ _ => rfl)))
      (pss_cons (kps_fld K (pv 0) (pe_lc rfl nd (kpi_enum K rfl T.b_enumerate (pa_cons (kpe_fld K (pv 0) rfl) pa_nil)) (blkOk_by (own := [("k", 6), ("row", 7)]) (N := ["self", "at", "goal", "column", "head", "entry", "k", "row"]) (sc := defScope s_Table_pivot) (by decide +kernel)) (fun _ _ _ _ _ => (kpg_tup K 2 rfl (pgs_cons (pg_name (i := 6) nd rfl (Or.inl rfl)) (pgs_cons (pg_name (i := 7) nd rfl (Or.inl rfl)) pgs_nil)))) (fun _ _ _ _ _ => pts_nil) (fun _ _ _ _ _ => (pe_ifExp (pt_cmpR op_eq (pv 6) (pv 1) (nomark _)) (pv 7) (pe_mt M_cleared hr (by decide) (pv 0) (pa_cons (pv 7) (pa_cons (pv 4) (pa_cons (pv 3) pa_nil))))))) rfl)
      (pss_cons (ps_asg (pe_mt M_cleared hr (by decide) (pv 0) (pa_cons (pv 2) (pa_cons (pv 4) (pa_cons (pv 3) pa_nil)))) (pg_all (pv 2)))
      (pss_cons (kps_fld K (pv 0) (pe_ix (kix_list K) (pv 4) (pv 3) (fun _ _ => rfl)) rfl)
      (pss_one (ps_asg (pv 3) (pg_sub (kpe_fld K (pv 0) rfl) (pv 1) set_list)))))))), ?_⟩
  obtain ⟨dx, ra, ba, xs, hx, hra, hxs, hba, hg, hne1, hne2, hne3, h0x, h0r, h0b, h0g⟩ := hTB.st
  have e0 := hTB.ex
  have hxl := hxs.length
  have nxr : x ≠ ra := ne_of hx hra (by intro z; cases z)
  have nxb : x ≠ ba := ne_of hx hba (by intro z; cases z)
  have nxg : x ≠ g := ne_of hx hg (by intro z; cases z)
  have hgr : rows[r]? = some (rows.getD r []) := getD_of_lt hrr
  have hrl := (hrw _ (List.mem_of_getElem? hgr)).1
  have hrB := (hrw _ (List.mem_of_getElem? hgr)).2
  obtain ⟨y, hy, b, rfl, hbM, hb⟩ := paired_at hxs hgr
  have hhl : (headOf rows r c).length = L := by
    unfold headOf
    split
    · rw [List.length_map]
      exact hrl
    · exact hrl
  have hhB : RowB B (headOf rows r c) := by
    unfold headOf
    split
    · intro z hz
      obtain ⟨z', hz', rfl⟩ := List.mem_map.mp hz
      have := hrB z' hz'
      unfold Bnd at *
      omega
    · exact hrB
  have hs1 : sc.natAbs.log2 < 9000 := by have := hsB.log; omega
  refine ⟨_, rfl, x, C, dx, _, _, rfl, hx, D.cl, nR, TF_rows .., _, rfl, ra, xs, r, .ref b, rfl, rfl, SqL.of hra, atI_nat hy, _, rfl, b, _, c, _, rfl, rfl, SqL.of hb, at_L (by omega), _, _, rfl, rfl, _, rfl, ?_⟩
  refine iteB (b := decide ((rows.getD r []).getD c 0 < 0)) (fun hg9 => ?neg) (fun hg9 => ?pos)
  case' neg =>
    have hneg := of_decide_eq_true hg9
    have hhd : headOf rows r c = (rows.getD r []).map (fun x => -x) := by unfold headOf; rw [if_pos hneg]
    refine ⟨_, rfl, x, C, dx, _, _, rfl, hx, D.cl, nR, TF_rows .., _, rfl, ra, xs, r, .ref b, rfl, rfl, SqL.of hra, atI_nat hy, b, rfl, ⟨_, SqL.of hb⟩, fun F hF => lc_data (rows.getD r []) (fun _ => true) IsI (fun x => -x) (Y := YAt ((rows.getD r []).map V.int)) (G := fun H => SqL K H b ((rows.getD r []).map V.int)) (by have z := walk_list (K := K) (a := b) (xs := (rows.getD r []).map V.int); rw [List.length_map] at z; exact z) tst_I (by omega) hF (fun H e => SqL.of (e _ _ hb)) (fun i x H H' h => h.1 ▸ Ex.refl H) (fun j x y Hx H10 hx' e10 hy Ky Kn k1 k2 => ?_) (fun H5 e5 hL5 => ?_)⟩
    · obtain ⟨rfl, hyj⟩ := hy
      rw [List.getElem?_map, hx'] at hyj
      obtain rfl := Option.some.inj hyj
      exact ⟨rfl, _, rfl, x, rfl, k1 rfl _ _ (Ex.refl _) rfl⟩
    rw [filter_all] at hL5
    have hF5 := ls_I hL5
    have hx5 := e5 _ _ hx
    have hra5 := e5 _ _ hra
    have nFr : F ≠ ra := fun e => by rw [e, hra] at hF; cases hF
    have nFM : F ∉ [x, ra, ba, g] := by
      intro h
      simp only [List.mem_cons, List.not_mem_nil, or_false] at h
      rcases h with h | h | h | h <;> rw [h] at hF
      · rw [hx] at hF; cases hF
      · rw [hra] at hF; cases hF
      · rw [hba] at hF; cases hF
      · rw [hg] at hF; cases hF
    refine ⟨_, rfl, x, C, dx, _, _, rfl, hx5, D.cl, nR, TF_rows .., _, rfl, ra, xs, r, r, rfl, rfl, hra5, by unfold ixN; rw [if_pos (by omega), if_pos (by omega), Int.toNat_natCast], ?_⟩
    obtain ⟨H1, xs1, bh, e1, hx1, hra1, hxs1, hba1, hg1, hbh, hbhM, hbh1, hH1⟩ : ∃ (H1 : Hp) (xs1 : List V) (bh : Addr), Ex H0 H1 ∧ H1 x = some (.ins C dx (TF n sa ra ba sc)) ∧ H1 ra = some (.lst xs1) ∧ All (IsRwM [x, ra, ba, g]) H1 xs1 (rows.set r (headOf rows r c)) ∧ H1 ba = some (.lst (bs.map fun b => V.int (b : Nat))) ∧ H1 g = some (.lst (goal.map V.int)) ∧ xs1[r]? = some (.ref bh) ∧ bh ∉ [x, ra, ba, g] ∧ H1 bh = some (.lst ((headOf rows r c).map V.int)) ∧ (upd H5 ra (.lst (xs.set r (.ref F)))) = H1 := ⟨_, _, F, Ex.mut (e0.trans e5) h0r, by rw [upd_ne nxr]; exact hx5, upd_same, by
        refine paired_set ⟨F, rfl, nFM, by rw [upd_ne nFr, hhd]; exact hF5⟩ r (Paired.imp' (fun v d q => RwM_upd (by simp) (sst_RwM _ _ _ _ _ e5 q)) hxs), by rw [upd_ne hne1.symm]; exact e5 _ _ hba, by rw [upd_ne hne2.symm]; exact e5 _ _ hg, by rw [List.getElem?_set_self (by omega)], nFM, by rw [upd_ne nFr, hhd]; exact hF5, rfl⟩
    rw [hH1]
  case' pos =>
    have hneg := of_decide_eq_false hg9
    have hhd : headOf rows r c = rows.getD r [] := by unfold headOf; rw [if_neg hneg]
    obtain ⟨H1, xs1, bh, e1, hx1, hra1, hxs1, hba1, hg1, hbh, hbhM, hbh1, hH1⟩ : ∃ (H1 : Hp) (xs1 : List V) (bh : Addr), Ex H0 H1 ∧ H1 x = some (.ins C dx (TF n sa ra ba sc)) ∧ H1 ra = some (.lst xs1) ∧ All (IsRwM [x, ra, ba, g]) H1 xs1 (rows.set r (headOf rows r c)) ∧ H1 ba = some (.lst (bs.map fun b => V.int (b : Nat))) ∧ H1 g = some (.lst (goal.map V.int)) ∧ xs1[r]? = some (.ref bh) ∧ bh ∉ [x, ra, ba, g] ∧ H1 bh = some (.lst ((headOf rows r c).map V.int)) ∧ H = H1 := ⟨H, xs, b, e0, hx, hra, by rw [hhd, set_getD]; exact hxs, hba, hg, hy, hbM, by rw [hhd]; exact hb, rfl⟩
    rw [hH1]
  all_goals
    have hx1l := hxs1.length
    rw [List.length_set] at hx1l
    have hbb : (rows.set r (headOf rows r c)).length = rows.length := List.length_set
    have rowsB : ∀ (i : Nat) (v : V), xs1[i]? = some v → ∃ (q : List Int) (a : Addr), (rows.set r (headOf rows r c))[i]? = some q ∧ v = .ref a ∧ a ∉ [x, ra, ba, g] ∧ H1 a = some (.lst (q.map V.int)) ∧ q.length = L ∧ RowB B q := fun i v hv => by
      obtain ⟨q, hq, a, rfl, h2, h3⟩ := paired_of hxs1 hv
      refine ⟨q, a, hq, rfl, h2, h3, ?_⟩
      rcases List.mem_or_eq_of_mem_set (List.mem_of_getElem? hq) with z | z
      · exact hrw q z
      · rw [z]
        exact ⟨hhl, hhB⟩
    refine ⟨_, rfl, x, C, dx, _, _, rfl, hx1, D.cl, nR, TF_rows .., _, rfl, ra, xs1, r, .ref bh, rfl, rfl, SqL.of hra1, atI_nat hbh, ?_⟩
    refine ⟨_, rfl, x, C, dx, _, _, rfl, hx1, D.cl, nR, TF_rows .., ra, xs1, rfl, SqL.of hra1, fun D2 hD2 => lc_data3 (rows.set r (headOf rows r c)).zipIdx (fun _ => true) (IsRwM [x, ra, ba, g]) (fun d => if d.2 = r then d.1 else clr d.1 (headOf rows r c) c sc) (Y := YPair (fun i => some (.int (i : Nat))) (fun i => xs1[i]?)) (G := fun H => SqL K H ra xs1) (by rw [List.length_zipIdx, hbb, ← hx1l]; exact walk_enum) (sst_RwM _) (by rw [List.length_zipIdx]; omega) hD2 (fun H e => SqL.of (e _ _ hra1)) (fun i x H H' h => by obtain ⟨T1, y1, y2, _, hT, rfl, _⟩ := h; exact Ex.new hT) (fun j d y Hx H9 ws hd e9 hDw hy Ky Kn k1 k2 => ?_) (fun H9 e9 ws hDw hws => ?_)⟩
    · obtain ⟨T1, y1, y2, rfl, hT, rfl, q1, q2⟩ := hy
      obtain rfl := Option.some.inj q1
      have q2 : xs1[j]? = some y2 := q2
      obtain ⟨q, bj, hq, rfl, hbjM, hbj, hql, hqB⟩ := rowsB j y2 q2
      have hj := (List.getElem?_eq_some_iff.mp hq).1
      rw [List.getElem?_zipIdx, hq] at hd
      obtain rfl := Option.some.inj hd
      have eT := Ex.new (o := .tup [.int (j : Nat), .ref bj]) hT
      have e9T := e9.trans eT
      have hbjT := e9T _ _ hbj
      have hbhT := e9T _ _ hbh1
      have nb : ∀ a o, H1 a = some o → a ≠ D2 := fun a o h e => by rw [e, hD2] at h; cases h
      refine ⟨T1, _, rfl, SqT.of upd_same, rfl, _, _, rfl, _, _, rfl, rfl, rfl, ?_⟩
      refine ⟨_, rfl, _, rfl, rfl, _, rfl, ?_⟩
      refine iteB (b := decide (V.int (j : Nat) = V.int (r : Nat))) (fun hg9 => ?_) (fun hg9 => ?_)
      · have hjr : j = r := by have := V.int.inj (of_decide_eq_true hg9); omega
        refine ⟨_, rfl, k1 rfl _ _ (Ex.refl _) ⟨bj, rfl, hbjM, ?_⟩⟩
        rw [hid_ne (nb _ _ hbj), hbjT]
        simp only [Nat.zero_add, if_pos hjr]
      · have hjr : j ≠ r := fun h => (of_decide_eq_false hg9) (by rw [h])
        refine ⟨_, rfl, x, dx, _, rfl, e9T _ _ hx1, TF_cleared .., _, rfl, _, rfl, _, rfl, x, dx, _, .ref bj, .ref bh, c, q, headOf rows r c, sc, B, rfl, e9T _ _ hx1, TF_scale .., hs0, hs1, ⟨bj, rfl, hbjT⟩, ⟨bh, rfl, hbhT⟩, by omega, by omega, by omega, hB1, hB2, hqB, hhB, fun pr H10 hpr e10 hpr2 => k1 rfl _ _ e10 ⟨pr, rfl, ?_, ?_⟩⟩
        · intro h
          simp only [List.mem_cons, List.not_mem_nil, or_false] at h
          rcases h with h | h | h | h <;> rw [h] at hpr
          · rw [e9T _ _ hx1] at hpr; cases hpr
          · rw [e9T _ _ hra1] at hpr; cases hpr
          · rw [e9T _ _ hba1] at hpr; cases hpr
          · rw [e9T _ _ hg1] at hpr; cases hpr
        · have np : pr ≠ D2 := by
            intro ee
            have hDw' : (upd Hx T1 (.tup [.int (j : Nat), .ref bj])) D2 = some (.lst ws) := hDw
            rw [ee, hDw'] at hpr
            cases hpr
          simp only [Nat.zero_add, if_neg hjr]
          rw [hid_ne np, hpr2]
    · rw [filter_all, pivRows_set hrr] at hws
      have hx9 := e9 _ _ hx1
      have hba9 := e9 _ _ hba1
      have hg9 := e9 _ _ hg1
      have hbh9 := e9 _ _ hbh1
      have e09 := e1.trans e9
      have hD0 : H0 D2 = none := Evl.fresh_back e1 hD2
      have nDx : D2 ≠ x := fun e => by rw [e, hx1] at hD2; cases hD2
      have nDb : D2 ≠ ba := fun e => by rw [e, hba1] at hD2; cases hD2
      have nDg : D2 ≠ g := fun e => by rw [e, hg1] at hD2; cases hD2
      have nhx : bh ≠ x := fun e => hbhM (by rw [e]; simp)
      have nhg : bh ≠ g := fun e => hbhM (by rw [e]; simp)
      have nhb : bh ≠ ba := fun e => hbhM (by rw [e]; simp)
      refine ⟨_, rfl, x, C, dx, _, rfl, hx9, D.cl, nR, (by show 5 < 1000; decide), ?_⟩
      rw [TF_put_rows]
      -- the table with the new rows
      have f2 : All (IsRwM [x, D2, ba, g]) (upd H9 x (.ins C dx (TF n sa D2 ba sc))) ws (pivRows rows r c sc) := Paired.imp' (fun v d q => by
        obtain ⟨a, rfl, ha1, ha2⟩ := q
        have naD : a ≠ D2 := fun e => by unfold hid at ha2; rw [if_pos e] at ha2; cases ha2
        rw [hid_ne naD] at ha2
        simp only [List.mem_cons, List.not_mem_nil, or_false, not_or] at ha1
        exact ⟨a, rfl, by simp only [List.mem_cons, List.not_mem_nil, or_false, not_or]; exact ⟨ha1.1, naD, ha1.2.2⟩, by rw [upd_ne ha1.1]; exact ha2⟩) hws
      have f1 : (upd H9 x (.ins C dx (TF n sa D2 ba sc))) x = some (.ins C dx (TF n sa D2 ba sc)) := upd_same
      have f3 : (upd H9 x (.ins C dx (TF n sa D2 ba sc))) D2 = some (.lst ws) := by rw [upd_ne nDx]; exact hDw
      have f4 : (upd H9 x (.ins C dx (TF n sa D2 ba sc))) ba = some (.lst (bs.map fun b => V.int (b : Nat))) := by rw [upd_ne nxb.symm]; exact hba9
      have f5 : (upd H9 x (.ins C dx (TF n sa D2 ba sc))) g = some (.lst (goal.map V.int)) := by rw [upd_ne nxg.symm]; exact hg9
      have f6 : (upd H9 x (.ins C dx (TF n sa D2 ba sc))) bh = some (.lst ((headOf rows r c).map V.int)) := by rw [upd_ne nhx]; exact hbh9
      have f0 : Ex H0 (upd H9 x (.ins C dx (TF n sa D2 ba sc))) := Ex.mut e09 h0x
      generalize upd H9 x (.ins C dx (TF n sa D2 ba sc)) = H2 at f0 f1 f2 f3 f4 f5 f6 ⊢
      refine ⟨_, rfl, x, dx, _, rfl, f1, TF_cleared .., _, rfl, _, rfl, _, rfl, x, dx, _, .ref g, .ref bh, c, goal, headOf rows r c, sc, B, rfl, f1, TF_scale .., hs0, hs1, ⟨g, rfl, f5⟩, ⟨bh, rfl, f6⟩, by omega, by omega, by omega, hB1, hB2, hgB, hhB, fun p H3 hp e3 hp3 => ?_⟩
      have npg : g ≠ p := fun e => by rw [← e, f5] at hp; cases hp
      refine ⟨_, rfl, g, p, _, _, rfl, rfl, e3 _ _ f5, hp3, npg, by simp only [List.length_map, clr_len (show goal.length = (headOf rows r c).length by omega)]; exact sz (by omega), ?_⟩
      have c1 : (upd H3 g (.lst ((clr goal (headOf rows r c) c sc).map V.int))) x = some (.ins C dx (TF n sa D2 ba sc)) := by rw [upd_ne nxg]; exact e3 _ _ f1
      have c6 : (upd H3 g (.lst ((clr goal (headOf rows r c) c sc).map V.int))) bh = some (.lst ((headOf rows r c).map V.int)) := by rw [upd_ne nhg]; exact e3 _ _ f6
      refine ⟨_, rfl, _, rfl, bh, _, c, _, rfl, rfl, SqL.of c6, at_L (by omega), ?_⟩
      refine ⟨_, rfl, x, C, dx, _, rfl, c1, D.cl, nS, (by show 5 < 1000; decide), ?_⟩
      rw [TF_put_scale]
      refine ⟨_, rfl, _, rfl, x, C, dx, _, _, rfl, upd_same, D.cl, nB, TF_basis .., _, rfl, ba, (bs.map fun b => V.int (b : Nat)), r, r, rfl, rfl, ?_, by unfold ixN; rw [List.length_map, if_pos (by omega), if_pos (by omega), Int.toNat_natCast], ?_⟩
      · rw [upd_ne nxb.symm, upd_ne hne3]
        exact e3 _ _ f4
      · refine hQ _ ⟨Ex.mut (Ex.mut (Ex.mut (f0.trans e3) h0g) h0x) h0b, dx, D2, ba, ws, ?_, ?_, ?_, ?_, ?_, nDb, nDg, hne3, h0x, hD0, h0b, h0g⟩
        · rw [upd_ne nxb, upd_same]
        · rw [upd_ne nDb, upd_ne nDx, upd_ne nDg]
          exact e3 _ _ f3
        · exact Paired.imp' (fun v d q => RwM_upd (by simp) (RwM_upd (by simp) (RwM_upd (by simp) (sst_RwM _ _ _ _ _ e3 q)))) f2
        · rw [upd_same, List.map_set]
        · rw [upd_ne hne3.symm, upd_ne nxg.symm, upd_same]
end
end K49

namespace K49
open PySem PySem.Spec PyProof.Rows L2
open C8 (Cal Met Mak pe_c pe_mk pe_mt pe_mt0 pe_gc)
open Evl (Ex)
def rowsOf (P : LP) (β : Nat → Nat) : List (List Int) := (List.range P.m).map fun i => (List.range (P.n + P.m + 1)).map fun j => P.T β i j
def basOf (P : LP) (β : Nat → Nat) : List Nat := (List.range P.m).map β
def goalOf (P : LP) (β : Nat → Nat) : List Int := (List.range (P.n + P.m + 1)).map fun j => P.G β j
theorem rng_getD {α : Type} {n i : Nat} (f : Nat → α) (d : α) (h : i < n) : ((List.range n).map f).getD i d = f i := by
  simp [List.getD, List.getElem?_map, List.getElem?_range h]
theorem rowsOf_len (P : LP) (β : Nat → Nat) : (rowsOf P β).length = P.m := by simp [rowsOf]
theorem rowsOf_row {P : LP} {β : Nat → Nat} {i : Nat} (h : i < P.m) : (rowsOf P β).getD i [] = (List.range (P.n + P.m + 1)).map fun j => P.T β i j := rng_getD _ _ h
theorem rowsOf_at {P : LP} {β : Nat → Nat} {i j : Nat} (h : i < P.m) (hj : j ≤ P.n + P.m) : tAt (rowsOf P β) i j = P.T β i j := by
  unfold tAt
  rw [rowsOf_row h, rng_getD _ _ (by omega)]
theorem goalOf_at {P : LP} {β : Nat → Nat} {j : Nat} (hj : j ≤ P.n + P.m) : (goalOf P β).getD j 0 = P.G β j := rng_getD _ _ (by omega)
theorem list_ext0 {l m : List Int} (h : l.length = m.length) (g : ∀ j, j < l.length → l.getD j 0 = m.getD j 0) : l = m := by
  refine List.ext_getElem h fun j h1 h2 => ?_
  have := g j h1
  simpa [List.getD, List.getElem?_eq_getElem h1, List.getElem?_eq_getElem h2] using this
theorem TB.mono {C : Addr} {H0 H H' : Hp} {n : Nat} {x g sa : Addr} {rows : List (List Int)} {bs : List Nat} {sc : Int} {goal : List Int} (h : TB C H0 n x g sa rows bs sc goal H) (e : Ex H H') : TB C H0 n x g sa rows bs sc goal H' := by
  obtain ⟨dx, ra, ba, xs, h1, h2, h3, h4, h5, h6⟩ := h.st
  exact ⟨h.ex.trans e, dx, ra, ba, xs, e _ _ h1, e _ _ h2, h3.mono (sst_RwM _) e, e _ _ h4, e _ _ h5, h6⟩
section
variable {P : LP} {β : Nat → Nat} {r c : Nat}
theorem headOf_run (hr : r < P.m) (hc : c ≤ P.n + P.m) (hp : 0 < P.T β r c) : headOf (rowsOf P β) r c = (List.range (P.n + P.m + 1)).map fun j => P.T β r j := by
  unfold headOf
  rw [rowsOf_row hr, rng_getD _ _ (by omega), if_neg (by omega)]
theorem clr_run {a b f : Nat → Int} {d : Int} {N : Nat} (hd : d ≠ 0) (hc : c < N) (h : ∀ j, d * f j = a j * b c - a c * b j) : clr ((List.range N).map a) ((List.range N).map b) c d = (List.range N).map f := by
  refine list_ext0 (by rw [clr_len (by simp)]; simp) fun j hj => ?_
  rw [clr_len (by simp), List.length_map, List.length_range] at hj
  rw [clr_get (by simp) (by simpa using hj), rng_getD _ _ hj, rng_getD _ _ hj, rng_getD _ _ hj, rng_getD _ _ hc, rng_getD _ _ hc, ← h j]
  exact Int.mul_fdiv_cancel_left _ hd
theorem piv_rows (g : P.Good β) (hr : r < P.m) (hc : c < P.n) (hp : 0 < P.T β r c) : pivRows (rowsOf P β) r c (P.d β) = rowsOf P (LP.piv β r c) := by
  have hd : P.d β ≠ 0 := by have := g.pos; omega
  refine List.ext_getElem (by unfold pivRows; rw [List.length_map, List.length_zipIdx, rowsOf_len, rowsOf_len]) fun i h1 h2 => ?_
  have hi : i < P.m := by rwa [rowsOf_len] at h2
  have e2 : (rowsOf P (LP.piv β r c))[i] = (List.range (P.n + P.m + 1)).map fun j => P.T (LP.piv β r c) i j := by simp [rowsOf]
  have e1 : (pivRows (rowsOf P β) r c (P.d β))[i] = if i = r then headOf (rowsOf P β) r c else clr ((List.range (P.n + P.m + 1)).map fun j => P.T β i j) (headOf (rowsOf P β) r c) c (P.d β) := by
    unfold pivRows
    simp [rowsOf]
  rw [e1, e2, headOf_run hr (by omega) hp]
  split
  · rename_i h
    subst h
    exact List.map_congr_left fun j _ => (LP.T_piv_row j).symm
  · rename_i h
    exact clr_run hd (by omega) fun j => LP.T_piv g hr hi h j
theorem piv_goal (g : P.Good β) (hr : r < P.m) (hc : c < P.n) (hp : 0 < P.T β r c) : clr (goalOf P β) (headOf (rowsOf P β) r c) c (P.d β) = goalOf P (LP.piv β r c) := by
  have hd : P.d β ≠ 0 := by have := g.pos; omega
  rw [headOf_run hr (by omega) hp]
  exact clr_run hd (by omega) fun j => by rw [LP.G_piv g hr hc j]; grind
theorem piv_scale (hr : r < P.m) (hc : c < P.n) (hp : 0 < P.T β r c) : (headOf (rowsOf P β) r c).getD c 0 = P.d (LP.piv β r c) := by
  rw [headOf_run hr (by omega) hp, rng_getD _ _ (by omega), LP.d_piv]
theorem piv_bas (hr : r < P.m) : (basOf P β).set r c = basOf P (LP.piv β r c) := by
  unfold basOf
  refine List.ext_getElem (by simp) fun i h1 h2 => ?_
  simp only [List.getElem_map, List.getElem_range, List.getElem_set]
  unfold LP.piv
  by_cases e : r = i
  · rw [if_pos e, if_pos e.symm]
  · rw [if_neg e, if_neg (Ne.symm e)]
end
/-- all that one meets is below 2 ^ B -/
structure LpB (P : LP) (B : Nat) : Prop where
  T : ∀ β i j, Bnd B (P.T β i j)
  G : ∀ β j, Bnd B (P.G β j)
  d : ∀ β, Bnd B (P.d β)
  lo : 1 ≤ B
  hi : B ≤ 1000
  n : P.n ≤ 400
  m : P.m ≤ 400
def spImprove (C : Addr) : Sp := fun vs H Q _ => ∃ (x g : Addr) (lim : Nat) (ls : List Int), vs = [.ref x, .ref g, .int lim] ∧ H g = some (.lst (ls.map V.int)) ∧ lim ≤ ls.length ∧ lim ≤ 1000 ∧
  (((∀ j, j < lim → 0 ≤ ls.getD j 0) ∧ RV (.bl true) H Q) ∨
   ∃ (H0 : Hp) (sa : Addr) (P : LP) (β : Nat → Nat) (k B : Nat), ls = goalOf P β ∧ lim = P.n ∧ TB C H0 P.n x g sa (rowsOf P β) (basOf P β) (P.d β) (goalOf P β) H ∧ P.Run k β ∧ LpB P B ∧
     ∀ β' k' H', P.Run k' β' → (∀ j, j < P.n → 0 ≤ P.G β' j) → TB C H0 P.n x g sa (rowsOf P β') (basOf P β') (P.d β') (goalOf P β') H' → Q (.bl true) H')
section
variable {P : Program} {w : World} {K : PySem.W.Frag} {mg : Str → Option Value} {base : Heap}
theorem sc_Table_improve : FnScope ["self", "goal", "limit", "columns", "at", "column"] ["self", "goal", "limit"] (defScope s_Table_improve) := C8.fnScope_by (by decide +kernel)
theorem met_Table_improve {C : Addr} (T : Txt mg) (D : Mth K C "improve" "Table.improve" s_Table_improve ["self", "goal", "limit"] [])
    (M_leaving : Met P w K mg base 1 C "leaving" (spLeave C) []) (M_pivot : Met P w K mg base 2 C "pivot" (spPivot C) []) : Met P w K mg base (3) C "improve" (spImprove C) [] := by
  have nd := sc_Table_improve.nd
  refine D.met sc_Table_improve (fun vs H Q E h => by obtain ⟨x, g, lim, ls, rfl, hg, hl1, hl2, hM⟩ := h; rfl) (fun f cdv A outer s H vs Q E hr h => ?_)
  obtain ⟨x, g, lim, ls, rfl, hg, hl1, hl2, hM⟩ := h
  have hu64 := room64 hr
  refine ⟨_, (pss_one (ps_while PassesOwn.never (pt_val pe_bl) (pss_cons (ps_setLc (i := 3) rfl nd rfl rfl (sw_true rfl rfl rfl (by decide +kernel)) (pi_range1 rfl T.b_range (pa_cons (pv 2) pa_nil)) (blkOk_by (own := [("column", 5)]) (N := ["self", "goal", "limit", "columns", "at", "column"]) (sc := defScope s_Table_improve) (by decide +kernel)) (fun _ _ _ _ _ => (pg_name (i := 5) nd rfl (Or.inl rfl))) (fun _ _ _ _ _ => (pts_one (pt_cmpR op_lt (pe_ix (kix_list K) (pv 1) (pv 5) (fun _ _ => rfl)) pe_int (nomark _)))) (fun _ _ _ _ _ => (pv 5)))
      (pss_cons (ps_if (pt_cmpR (keqD K hu64) (pv 3) (pe_lst pa_nil) (nomark _)) (pss_one (ps_ret pe_bl)) pss_nil)
      (pss_cons (ps_set (i := 4) nd rfl (Or.inl rfl) (pe_mt M_leaving hr (by decide) (pv 0) (pa_cons (pe_ix (kix_list K) (pv 3) pe_int (fun _ _ => rfl)) pa_nil)))
      (pss_cons (ps_if (pt_cmpR op_isN1 (pv 4) pe_non (nomark _)) (pss_one (ps_ret pe_bl)) pss_nil)
      (pss_one (ps_expr (pe_mt M_pivot hr (by decide) (pv 0) (pa_cons (pv 4) (pa_cons (pv 1) (pa_cons (pe_ix (kix_list K) (pv 3) pe_int (fun _ _ => rfl)) pa_nil)))))))))))), ?_⟩
  refine ⟨fun m σ H' => ∃ x3 x4 x5 ls', σ = [some (.ref x), some (.ref g), some (.int lim), x3, x4, x5] ∧ H' g = some (.lst (ls'.map V.int)) ∧ lim ≤ ls'.length ∧
    (((∀ j, j < lim → 0 ≤ ls'.getD j 0) ∧ RV (.bl true) H' Q) ∨ ∃ (H0 : Hp) (sa : Addr) (P : LP) (β : Nat → Nat) (k B : Nat), ls' = goalOf P β ∧ lim = P.n ∧ TB C H0 P.n x g sa (rowsOf P β) (basOf P β) (P.d β) (goalOf P β) H' ∧ P.Run k β ∧ LpB P B ∧ m = (P.n + P.m) ^ P.m - k ∧
     ∀ β' k' H', P.Run k' β' → (∀ j, j < P.n → 0 ≤ P.G β' j) → TB C H0 P.n x g sa (rowsOf P β') (basOf P β') (P.d β') (goalOf P β') H' → Q (.bl true) H'), ?_, fun m σ H' h => ?_⟩
  · rcases hM with hM | ⟨H0, sa, P, β, k, B, h1, h2, h3, h4, h5, h6⟩
    · exact ⟨0, _, _, _, ls, rfl, hg, hl1, .inl hM⟩
    · exact ⟨_, _, _, _, ls, rfl, hg, hl1, .inr ⟨H0, sa, P, β, k, B, h1, h2, h3, h4, h5, rfl, h6⟩⟩
  · obtain ⟨x3, x4, x5, ls', rfl, hg', hll, hM⟩ := h
    refine ⟨_, rfl, iteT ⟨fun σ' H'' => ∃ m', m' < m ∧ _, fun σ' H'' h => h, ?_⟩⟩
    refine ⟨_, rfl, (lim : Int), rfl, by omega, by omega, fun F hF => lc_data (List.range lim) (fun j => decide (ls'.getD j 0 < 0)) IsI (fun j => (j : Int)) (Y := YFn fun i => .int (0 + i)) (G := fun _ => True) (by have z := walk_range (lo := 0) (n := (lim : Int).toNat); rw [show (lim : Int).toNat = (List.range lim).length by rw [List.length_range]; omega] at z ⊢; exact z) tst_I (by rw [List.length_range]; omega) hF (fun H e => trivial) (fun i x H H' h => h.1 ▸ Ex.refl H) (fun j d y H9 H5 hd e5 hy Ky Kn k1 k2 => ?_) (fun H5 e5 hLs => ?_)⟩
    · obtain ⟨rfl, rfl⟩ := hy
      have hj : j < lim := by
        have := (List.getElem?_eq_some_iff.mp hd).1
        rw [List.length_range] at this
        exact this
      rw [List.getElem?_range hj] at hd
      obtain rfl := Option.some.inj hd
      refine ⟨rfl, _, rfl, _, rfl, g, _, (0 + (j : Nat) : Int), .int (ls'.getD j 0), rfl, rfl, SqL.of (e5 _ _ hg'), by rw [show (0 : Int) + (j : Nat) = (j : Nat) by omega]; exact at_L (by omega), _, _, rfl, rfl, _, rfl, ?_⟩
      refine iteB (b := decide (ls'.getD j 0 < 0)) (fun h => ⟨_, rfl, k1 h _ _ (Ex.refl _) (by show V.int (0 + (j : Nat)) = V.int (j : Nat); rw [Int.zero_add])⟩) (fun h => k2 h _ (Ex.refl _))
    · refine ⟨_, rfl, by show 0 ≤ sizeLine; decide, fun b1 hb1 => ?_⟩
      have eb1 := Ex.new (o := .lst []) hb1
      refine eq_nil enc_I (hLs.mono tst_I.sst eb1) upd_same ⟨_, rfl, ?_⟩
      have hF2 := ls_I (hLs.mono tst_I.sst eb1)
      have e6 := e5.trans eb1
      generalize upd H5 b1 (.lst []) = H6 at hF2 e6 ⊢
      cases hfd : (List.range lim).filter (fun j => decide (ls'.getD j 0 < 0)) with
      | nil =>
        have hall : ∀ j, j < lim → 0 ≤ ls'.getD j 0 := fun j hj => by
          by_cases z : ls'.getD j 0 < 0
          · have : j ∈ (List.range lim).filter (fun j => decide (ls'.getD j 0 < 0)) := List.mem_filter.mpr ⟨List.mem_range.mpr hj, decide_eq_true z⟩
            rw [hfd] at this
            cases this
          · omega
        refine iteT ?_
        rcases hM with ⟨_, hQ⟩ | ⟨H0, sa, P, β, k, B, h1, h2, h3, h4, h5, h6, hQ⟩
        · exact hQ H6 e6
        · refine hQ β k H6 h4 (fun j hj => ?_) ?_
          · have := hall j (by omega)
            rw [h1, goalOf_at (by omega)] at this
            exact this
          · exact h3.mono e6
      | cons c0 cs =>
        rw [hfd] at hF2
        obtain ⟨hc1, hc2⟩ := List.mem_filter.mp (show c0 ∈ (List.range lim).filter (fun j => decide (ls'.getD j 0 < 0)) by rw [hfd]; exact List.mem_cons_self ..)
        have hc1 := List.mem_range.mp hc1
        have hc2 := of_decide_eq_true hc2
        refine iteF ?_
        rcases hM with ⟨hall, _⟩ | ⟨H0, sa, P, β, k, B, h1, h2, h3, h4, h5, h6, hQ⟩
        · have := hall c0 hc1
          omega
        · obtain rfl := h1
          obtain rfl := h2
          rw [goalOf_at (by omega)] at hc2
          have g4 := h4.good
          have hTB := h3.mono e6
          obtain ⟨dx, ra, ba, xs, hx, hra, hxs, hba, hg6, _⟩ := hTB.st
          have hrw : ∀ r ∈ rowsOf P β, r.length = P.n + P.m + 1 ∧ RowB B r := fun r hr => by
            obtain ⟨i, hi, rfl⟩ := List.mem_map.mp hr
            refine ⟨by simp, fun z hz => ?_⟩
            obtain ⟨j, _, rfl⟩ := List.mem_map.mp hz
            exact h5.T _ _ _
          have hlen := rowsOf_len P β
          have hbl : (basOf P β).length = (rowsOf P β).length := by simp [basOf, rowsOf]
          have hn := h5.n
          have hm := h5.m
          have hB1 := h5.lo
          have hB2 := h5.hi
          refine ⟨_, rfl, x, dx, _, rfl, hx, TF_leaving .., _, rfl, F, _, 0, .int (c0 : Nat), rfl, rfl, SqL.of hF2, atI_nat (j := 0) rfl, x, dx, ra, ba, _, c0, P.n + P.m, B, rowsOf P β, basOf P β, rfl, hx, TF_rows .., TF_basis .., ⟨xs, hra, Paired.imp' (fun v d q => by obtain ⟨a, h1, _, h2⟩ := q; exact ⟨a, h1, h2⟩) hxs⟩, hba, hbl, hrw, by omega, by omega, hB1, by omega, fun hno => ?_, fun r hlst => ?_⟩
          · exfalso
            obtain ⟨i, hi, hp⟩ := LP.row_there g4 hc1 hc2
            refine hno i (by omega) ?_
            rw [rowsOf_at hi (by omega)]
            exact hp
          · have hrm : r < P.m := by have := hlst.lt; omega
            have hpos : 0 < P.T β r c0 := by have := hlst.pos; rwa [rowsOf_at hrm (by omega)] at this
            have hturn : P.Turn β c0 r := ⟨hc1, hc2, fun j hj => by
                have hj0 : ¬ j ∈ (List.range P.n).filter (fun j => decide ((goalOf P β).getD j 0 < 0)) := fun hm => by
                  have hs : (c0 :: cs).Pairwise (· < ·) := by
                    rw [← hfd]
                    exact List.Pairwise.filter _ List.pairwise_lt_range
                  rw [hfd] at hm
                  rcases List.mem_cons.mp hm with z | z
                  · omega
                  · have := (List.pairwise_cons.mp hs).1 j z
                    omega
                by_cases z : P.G β j < 0
                · exact absurd (List.mem_filter.mpr ⟨List.mem_range.mpr (show j < P.n by omega), decide_eq_true (by rw [goalOf_at (by omega)]; exact z)⟩) hj0
                · omega, hrm, hpos, fun i hi hp => by
                have := hlst.least i (by omega) (by rw [rowsOf_at hi (by omega)]; exact hp)
                rwa [rowsOf_at hrm (by omega), rowsOf_at hi (by omega), rowsOf_at hi (by omega), rowsOf_at hrm (by omega)] at this, fun i hi hp he => by
                have := hlst.tie i (by omega) (by rw [rowsOf_at hi (by omega)]; exact hp) (by rw [rowsOf_at hrm (by omega), rowsOf_at hi (by omega), rowsOf_at hi (by omega), rowsOf_at hrm (by omega)]; exact he)
                unfold basOf at this
                rwa [rng_getD _ _ hrm, rng_getD _ _ hi] at this⟩
            have hrun := LP.Run.cons h4 hturn
            have hend := hrun.ends
            intro H7 e7
            have hTB7 := hTB.mono e7
            obtain ⟨dx7, ra7, ba7, xs7, hx7, _⟩ := hTB7.st
            refine ⟨_, rfl, rfl, _, rfl, iteF ?_⟩
            refine ⟨_, rfl, x, dx7, _, rfl, hx7, TF_pivot .., _, rfl, _, rfl, _, rfl, F, _, 0, .int (c0 : Nat), rfl, rfl, SqL.of (e7 _ _ hF2), atI_nat (j := 0) rfl, H0, P.n, x, g, sa, rowsOf P β, basOf P β, P.d β, goalOf P β, r, c0, P.n + P.m + 1, B, rfl, hTB7, by omega, hbl, by omega, by have := g4.pos; omega, h5.d β, hrw, by simp [goalOf], fun z hz => ?_, hB1, by omega, by omega, by omega, fun H8 hTB8 => ?_⟩
            · obtain ⟨j, _, rfl⟩ := List.mem_map.mp hz
              exact h5.G _ _
            · rw [piv_rows g4 hrm hc1 hpos, piv_bas hrm, piv_scale hrm hc1 hpos, piv_goal g4 hrm hc1 hpos] at hTB8
              obtain ⟨dx8, ra8, ba8, xs8, _, _, _, _, hg8, _⟩ := hTB8.st
              exact ⟨(P.n + P.m) ^ P.m - (k + 1), by omega, _, _, _, _, rfl, hg8, by simp [goalOf]; omega, .inr ⟨H0, sa, P, _, k + 1, B, rfl, rfl, hTB8, hrun, h5, rfl, hQ⟩⟩
end
end K49

namespace K49
open PySem PySem.Spec PyProof.Rows L2
open C8 (Cal Met Mak pe_c pe_mk pe_mt pe_mt0 pe_gc)
open Evl (Ex)
/-- a table of so many rows, entries so wide -/
structure TW (n W B : Nat) (rows : List (List Int)) (bs : List Nat) (sc : Int) (goal : List Int) : Prop where
  len : bs.length = rows.length
  row : ∀ r ∈ rows, r.length = W ∧ RowB B r
  glen : goal.length = W
  gb : RowB B goal
  s0 : sc ≠ 0
  sb : Bnd B sc
def spLeaveA (C : Addr) : Sp := fun vs H Q _ => ∃ (H0 : Hp) (n : Nat) (x g sa : Addr) (rows : List (List Int)) (bs : List Nat) (sc : Int) (goal : List Int) (W B : Nat), vs = [.ref x, .ref g] ∧ TB C H0 n x g sa rows bs sc goal H ∧ TW n W B rows bs sc goal ∧
  rows.length ≤ 5 ∧ n < W ∧ W ≤ 1000 ∧ 1 ≤ B ∧ B ≤ 200 ∧
  ∀ rows' bs' sc' goal' H', TB C H0 n x g sa rows' bs' sc' goal' H' → TW n W 7000 rows' bs' sc' goal' → rows'.length ≤ 5 → (∀ b ∈ bs', b < n) → Q .non H'
def bw (B : Nat) : Nat → Nat
  | 0 => B
  | i + 1 => 2 * bw B i + 2
theorem bw_le {B : Nat} (h1 : 1 ≤ B) (hB : B ≤ 200) : ∀ i, i ≤ 5 → 1 ≤ bw B i ∧ bw B i + 2 ≤ 202 * 2 ^ i
  | 0, _ => ⟨h1, by show B + 2 ≤ 202 * 1; omega⟩
  | i + 1, hi => by
    obtain ⟨q1, q2⟩ := bw_le h1 hB i (by omega)
    rw [Nat.pow_succ]
    refine ⟨by show 1 ≤ 2 * bw B i + 2; omega, by show 2 * bw B i + 2 + 2 ≤ _; omega⟩
theorem TW.mono {n W B B' : Nat} {rows : List (List Int)} {bs : List Nat} {sc : Int} {goal : List Int} (h : TW n W B rows bs sc goal) (e : B ≤ B') : TW n W B' rows bs sc goal :=
  ⟨h.len, fun r hr => ⟨(h.row r hr).1, fun x hx => ((h.row r hr).2 x hx).mono e⟩, h.glen, fun x hx => (h.gb x hx).mono e, h.s0, h.sb.mono e⟩
theorem headOf_len {rows : List (List Int)} {r c : Nat} : (headOf rows r c).length = (rows.getD r []).length := by
  unfold headOf
  split
  · rw [List.length_map]
  · rfl
theorem headOf_bnd {rows : List (List Int)} {r c B : Nat} (h : RowB B (rows.getD r [])) : RowB B (headOf rows r c) := by
  unfold headOf
  split
  · intro z hz
    obtain ⟨z', hz', rfl⟩ := List.mem_map.mp hz
    have := h z' hz'
    unfold Bnd at *
    omega
  · exact h
theorem headOf_ne {rows : List (List Int)} {r c : Nat} (h : (rows.getD r []).getD c 0 ≠ 0) : (headOf rows r c).getD c 0 ≠ 0 := by
  unfold headOf
  split
  · have e : ((rows.getD r []).map fun x => -x).getD c 0 = -((rows.getD r []).getD c 0) := by
      simp only [List.getD, List.getElem?_map]
      cases (rows[r]?.getD [])[c]? <;> simp
    rw [e]
    omega
  · exact h
theorem TW.piv {n W B r c : Nat} {rows : List (List Int)} {bs : List Nat} {sc : Int} {goal : List Int} (h : TW n W B rows bs sc goal) (hr : r < rows.length) (hB : 1 ≤ B) (hc : (rows.getD r []).getD c 0 ≠ 0) :
    TW n W (2 * B + 2) (pivRows rows r c sc) (bs.set r c) ((headOf rows r c).getD c 0) (clr goal (headOf rows r c) c sc) := by
  have hm : rows.getD r [] ∈ rows := List.mem_of_getElem? (getD_of_lt hr)
  have hl : (headOf rows r c).length = W := by rw [headOf_len, (h.row _ hm).1]
  have hb := headOf_bnd (c := c) (h.row _ hm).2
  refine ⟨by rw [List.length_set, h.len]; simp [pivRows], fun q hq => ?_, by rw [clr_len (by rw [hl, h.glen]), h.glen], clr_bnd hB h.gb hb, headOf_ne hc, (hb.getD hB c).mono (by omega)⟩
  obtain ⟨d, hd, rfl⟩ := List.mem_map.mp hq
  have hd1 := List.mem_zipIdx' hd
  have hdm : d.1 ∈ rows := by rw [hd1.2]; exact List.getElem_mem _
  split
  · exact ⟨hl, fun x hx => (hb x hx).mono (by omega)⟩
  · exact ⟨by rw [clr_len (by rw [hl, (h.row _ hdm).1])]; exact (h.row _ hdm).1, clr_bnd hB (h.row _ hdm).2 hb⟩
theorem TW.pop {n W B r : Nat} {rows : List (List Int)} {bs : List Nat} {sc : Int} {goal : List Int} (h : TW n W B rows bs sc goal) (hr : r < rows.length) : TW n W B (rows.eraseIdx r) (bs.eraseIdx r) sc goal :=
  ⟨by rw [List.length_eraseIdx, List.length_eraseIdx, h.len], fun q hq => h.row q (List.mem_of_mem_eraseIdx hq), h.glen, h.gb, h.s0, h.sb⟩
theorem paired_erase {γ δ : Type} {F : γ → δ → Prop} : ∀ {l : List γ} {m : List δ} (i : Nat), Paired F l m → Paired F (l.eraseIdx i) (m.eraseIdx i)
  | _, _, _, .nil => .nil
  | _, _, 0, .cons _ t => t
  | _, _, i + 1, .cons r t => .cons r (paired_erase i t)
section
variable {P : Program} {w : World} {K : PySem.W.Frag} {mg : Str → Option Value} {base : Heap}
theorem sc_Table_leave_artificial : FnScope ["self", "goal", "at", "columns", "column"] ["self", "goal"] (defScope s_Table_leave_artificial) := C8.fnScope_by (by decide +kernel)
theorem met_Table_leave_artificial {C : Addr} (T : Txt mg) (D : Mth K C "leave_artificial" "Table.leave_artificial" s_Table_leave_artificial ["self", "goal"] [])
    (nM : NoAttr K C "many") (nR : NoAttr K C "rows") (nB : NoAttr K C "basis") (M_pivot : Met P w K mg base 2 C "pivot" (spPivot C) []) : Met P w K mg base (3) C "leave_artificial" (spLeaveA C) [] := by
  have nd := sc_Table_leave_artificial.nd
  refine D.met sc_Table_leave_artificial (fun vs H Q E h => by obtain ⟨H0, n, x, g, sa, rows, bs, sc, goal, W, B, rfl, hTB, hTW, hm, hnW, hW, hB1, hB2, hQ⟩ := h; rfl) (fun f cdv A outer s H vs Q E hr h => ?_)
  obtain ⟨H0, n, x, g, sa, rows, bs, sc, goal, W, B, rfl, hTB, hTW, hm, hnW, hW, hB1, hB2, hQ⟩ := h
  have hu64 := room64 hr
  refine ⟨_, (pss_one (ps_for PassesOwn.never rfl (pi_range3 rfl T.b_range (pa_cons (pe_op op_sub (pe_callB (klen K) rfl T.b_len PySem.boot_len (pa_cons (kpe_fld K (pv 0) rfl) pa_nil)) pe_int) (pa_cons (pe_un un_neg pe_int) (pa_cons (pe_un un_neg pe_int) pa_nil)))) (pg_name (i := 2) nd rfl (Or.inr rfl)) (pss_one (ps_if (pt_cmpR op_ge (pe_ix (kix_list K) (kpe_fld K (pv 0) rfl) (pv 2) (fun _ _ => rfl)) (kpe_fld K (pv 0) rfl) (nomark _)) (pss_cons (ps_setLc (i := 3) rfl nd rfl rfl (sw_true rfl rfl rfl (by decide +kernel)) (pi_range1 rfl T.b_range (pa_cons (kpe_fld K (pv 0) rfl) pa_nil)) (blkOk_by (own := [("column", 4)]) (N := ["self", "goal", "at", "columns", "column"]) (sc := defScope s_Table_leave_artificial) (by decide +kernel)) (fun _ _ _ _ _ => (pg_name (i := 4) nd rfl (Or.inl rfl))) (fun _ _ _ _ _ => (pts_one (pt_cmpR op_ne (pe_ix (kix_list K) (pe_ix (kix_list K) (kpe_fld K (pv 0) rfl) (pv 2) (fun _ _ => rfl)) (pv 4) (fun _ _ => rfl)) pe_int (nomark _)))) (fun _ _ _ _ _ => (pv 4)))
      (pss_one (ps_if (pt_cmpR (keqD K hu64) (pv 3) (pe_lst pa_nil) (nomark _)) (pss_cons (ps_expr (kpe_bm K PySem.F.plainAttrs_list PySem.F.slot_list_pop PySem.F.type_list_pop mt_popAt (kpe_fld K (pv 0) rfl) (pa_cons (pv 2) pa_nil)))
      (pss_one (ps_expr (kpe_bm K PySem.F.plainAttrs_list PySem.F.slot_list_pop PySem.F.type_list_pop mt_popAt (kpe_fld K (pv 0) rfl) (pa_cons (pv 2) pa_nil))))) (pss_one (ps_expr (pe_mt M_pivot hr (by decide) (pv 0) (pa_cons (pv 2) (pa_cons (pv 1) (pa_cons (pe_ix (kix_list K) (pv 3) pe_int (fun _ _ => rfl)) pa_nil))))))))) pss_nil)))), ?_⟩
  obtain ⟨dx, ra, ba, xs, hx, hra, hxs, hba, hg, _⟩ := hTB.st
  have hxl := hxs.length
  refine ⟨_, rfl, x, C, dx, _, _, rfl, hx, D.cl, nR, TF_rows .., ra, xs, rfl, .inl (SqL.of hra), _, _, rfl, rfl, ?_⟩
  have hrg : RgC (((xs.length : Nat) : Int) - 1) (-1) (-1) xs.length := by
    have z := RgC.neg (i := ((xs.length : Nat) : Int) - 1) (j := -1) (by omega) (by omega) (by omega) (by omega)
    rw [show ((xs.length : Nat) : Int) - 1 - -1 = (xs.length : Nat) by omega, Int.toNat_natCast] at z
    exact z
  refine ⟨1, rfl, 1, rfl, _, -1, -1, xs.length, rfl, hrg, for_rangeC (fun i σ H' => ∃ x2 x3 x4 rows' bs' sc' goal', σ = [some (.ref x), some (.ref g), x2, x3, x4] ∧ TB C H0 n x g sa rows' bs' sc' goal' H' ∧ TW n W (bw B i) rows' bs' sc' goal' ∧ rows'.length ≤ rows.length ∧ rows.length ≤ rows'.length + i ∧ ∀ j, rows.length - i ≤ j → j < bs'.length → bs'.getD j 0 < n) ⟨_, _, _, rows, bs, sc, goal, rfl, hTB, hTW, Nat.le_refl _, Nat.le_refl _, fun j h1 h2 => by have := hTW.len; omega⟩ (fun i σ H1 hi h => ?_) (fun σ H1 h => ?_)⟩
  · obtain ⟨x2, x3, x4, rows1, bs1, sc1, goal1, rfl, hTB1, hTW1, hl1, hl2, hlow⟩ := h
    obtain ⟨dx, ra, ba, xs1, hx, hra, hxs1, hba, hg, hne1, hne2, hne3, h0x, h0r, h0b, h0g⟩ := hTB1.st
    have e01 := hTB1.ex
    obtain ⟨p, hp, hpv⟩ : ∃ p : Nat, p + i + 1 = rows.length ∧ ((xs.length : Nat) : Int) - 1 + (i : Nat) * -1 = (p : Int) := ⟨rows.length - 1 - i, by omega, by omega⟩
    rw [hpv]
    have hpl : p < rows1.length := by omega
    have hpb : p < bs1.length := by have := hTW1.len; omega
    obtain ⟨b1, b2⟩ := bw_le hB1 hB2 i (by omega)
    have hpow : 2 ^ i ≤ 16 := by
      have : i ≤ 4 := by omega
      calc 2 ^ i ≤ 2 ^ 4 := Nat.pow_le_pow_right (by decide) this
        _ = 16 := rfl
    have hbw : bw B i ≤ 3230 := by omega
    have hx1l := hxs1.length
    refine ⟨_, rfl, x, C, dx, _, _, rfl, hx, D.cl, nB, TF_basis .., _, rfl, ba, _, p, _, rfl, rfl, SqL.of hba, at_N hpb, _, rfl, x, C, dx, _, _, rfl, hx, D.cl, nM, TF_many .., _, _, rfl, rfl, _, rfl, ?_⟩
    refine iteB (b := decide ((n : Int) ≤ ((bs1.getD p 0 : Nat) : Int))) (fun hge => ?_) (fun hge => ?_)
    · have hge := of_decide_eq_true hge
      refine ⟨_, rfl, x, C, dx, _, _, rfl, hx, D.cl, nM, TF_many .., (n : Int), rfl, by omega, by omega, fun F hF => lc_data (List.range n) (fun j => !decide ((rows1.getD p []).getD j 0 = 0)) IsI (fun j => (j : Int)) (Y := YFn fun i => .int (0 + i)) (G := fun _ => True) (by have z := walk_range (lo := 0) (n := (n : Int).toNat); rw [show (n : Int).toNat = (List.range n).length by rw [List.length_range]; omega] at z ⊢; exact z) tst_I (by rw [List.length_range]; omega) hF (fun H e => trivial) (fun i x H H' h => h.1 ▸ Ex.refl H) (fun j d y H9 H5 hd e5 hy Ky Kn k1 k2 => ?_) (fun H5 e5 hLs => ?_)⟩
      · obtain ⟨rfl, rfl⟩ := hy
        have hj : j < n := by
          have := (List.getElem?_eq_some_iff.mp hd).1
          rw [List.length_range] at this
          exact this
        rw [List.getElem?_range hj] at hd
        obtain rfl := Option.some.inj hd
        obtain ⟨y, hy, b, rfl, _, hb⟩ := paired_at hxs1 (getD_of_lt (d := []) hpl)
        have hrl := (hTW1.row _ (List.mem_of_getElem? (getD_of_lt (d := []) hpl))).1
        refine ⟨rfl, _, rfl, x, C, dx, _, _, rfl, e5 _ _ hx, D.cl, nR, TF_rows .., _, rfl, ra, xs1, p, .ref b, rfl, rfl, SqL.of (e5 _ _ hra), atI_nat hy, _, rfl, b, _, (0 + (j : Nat) : Int), .int ((rows1.getD p []).getD j 0), rfl, rfl, SqL.of (e5 _ _ hb), by rw [show (0 : Int) + (j : Nat) = (j : Nat) by omega]; exact at_L (by omega), rfl, _, rfl, ?_⟩
        have ev : (!decide (V.int ((rows1.getD p []).getD j 0) = V.int 0)) = !decide ((rows1.getD p []).getD j 0 = 0) := by
          congr 1
          rw [Bool.eq_iff_iff, decide_eq_true_iff, decide_eq_true_iff]
          exact ⟨fun h => V.int.inj h, fun h => congrArg V.int h⟩
        rw [ev]
        refine iteB (b := !decide ((rows1.getD p []).getD j 0 = 0)) (fun h => ⟨_, rfl, k1 h _ _ (Ex.refl _) (by show V.int (0 + (j : Nat)) = V.int (j : Nat); rw [Int.zero_add])⟩) (fun h => k2 h _ (Ex.refl _))
      · refine ⟨_, rfl, by show 0 ≤ sizeLine; decide, fun b1' hb1' => ?_⟩
        have eb1 := Ex.new (o := .lst []) hb1'
        refine eq_nil enc_I (hLs.mono tst_I.sst eb1) upd_same ⟨_, rfl, ?_⟩
        have hF2 := ls_I (hLs.mono tst_I.sst eb1)
        have e6 := e5.trans eb1
        generalize upd H5 b1' (.lst []) = H6 at hF2 e6 ⊢
        have hTB6 := hTB1.mono e6
        have hx6 := e6 _ _ hx
        have hra6 := e6 _ _ hra
        have hba6 := e6 _ _ hba
        have hg6 := e6 _ _ hg
        have hxs6 := hxs1.mono (sst_RwM _) e6
        cases hfd : (List.range n).filter (fun j => !decide ((rows1.getD p []).getD j 0 = 0)) with
        | nil =>
          refine iteT ?_
          have nxr : x ≠ ra := ne_of hx hra (by intro z; cases z)
          have nxb : x ≠ ba := ne_of hx hba (by intro z; cases z)
          have hlenb := hTW1.len
          have six : ∀ L : Nat, p < L → seqIndex? (p : Int) L = some p := fun L h => by rw [seqIndex_at (by omega) (by omega), Int.toNat_natCast]
          obtain ⟨y, hy⟩ : ∃ y, xs1[p]? = some y := ⟨xs1[p], List.getElem?_eq_getElem (by omega)⟩
          refine ⟨_, rfl, x, C, dx, _, _, rfl, hx6, D.cl, nR, TF_rows .., .inl ⟨rfl, _, SqL.of hra6⟩, _, rfl, ra, xs1, (p : Int), p, y, rfl, rfl, hra6, by omega, by omega, six _ (by omega), hy, ?_⟩
          refine ⟨_, rfl, x, C, dx, _, _, rfl, by rw [upd_ne nxr]; exact hx6, D.cl, nB, TF_basis .., .inl ⟨rfl, _, SqL.of (by rw [upd_ne hne1.symm]; exact hba6)⟩, _, rfl, ba, (bs1.map fun b => V.int (b : Nat)), (p : Int), p, V.int ((bs1.getD p 0 : Nat) : Int), rfl, rfl, by rw [upd_ne hne1.symm]; exact hba6, by omega, by omega, six _ (by rw [List.length_map]; exact hpb), by rw [List.getElem?_map, getD_of_lt (d := 0) hpb]; rfl, ?_⟩
          have hpw := hTW1.pop hpl
          refine ⟨_, _, _, rows1.eraseIdx p, bs1.eraseIdx p, sc1, goal1, rfl, ⟨Ex.mut (Ex.mut (e01.trans e6) h0r) h0b, dx, ra, ba, xs1.eraseIdx p, ?_, ?_, ?_, ?_, ?_, hne1, hne2, hne3, h0x, h0r, h0b, h0g⟩, hpw.mono (by show bw B i ≤ 2 * bw B i + 2; omega), ?_, ?_, fun j h1 h2 => ?_⟩
          · rw [upd_ne nxb, upd_ne nxr]
            exact hx6
          · rw [upd_ne hne1, upd_same]
          · exact Paired.imp' (fun v d q => RwM_upd (by simp) (RwM_upd (by simp) q)) (paired_erase p hxs6)
          · rw [upd_same]
            congr 2
            refine List.ext_getElem? fun j => ?_
            simp only [List.getElem?_eraseIdx, List.getElem?_map]
            split <;> rfl
          · rw [upd_ne hne3.symm, upd_ne hne2.symm]
            exact hg6
          · rw [List.length_eraseIdx_of_lt hpl]
            omega
          · rw [List.length_eraseIdx_of_lt hpl]
            omega
          · rw [List.length_eraseIdx_of_lt hpb] at h2
            have := hlow (j + 1) (by omega) (by omega)
            simpa [List.getD, List.getElem?_eraseIdx, show ¬ j < p by omega] using this
        | cons c0 cs =>
          refine iteF ?_
          rw [hfd] at hF2
          obtain ⟨hc1, hc2⟩ := List.mem_filter.mp (show c0 ∈ (List.range n).filter (fun j => !decide ((rows1.getD p []).getD j 0 = 0)) by rw [hfd]; exact List.mem_cons_self ..)
          have hc1 := List.mem_range.mp hc1
          have hc2 : (rows1.getD p []).getD c0 0 ≠ 0 := by simpa using hc2
          refine ⟨_, rfl, x, dx, _, rfl, hx6, TF_pivot .., _, rfl, _, rfl, _, rfl, F, _, 0, .int (c0 : Nat), rfl, rfl, SqL.of hF2, atI_nat (j := 0) rfl, H0, n, x, g, sa, rows1, bs1, sc1, goal1, p, c0, W, bw B i, rfl, hTB6, hpl, hTW1.len, by omega, hTW1.s0, hTW1.sb, hTW1.row, hTW1.glen, hTW1.gb, b1, by omega, by omega, by omega, fun H8 hTB8 => ?_⟩
          refine ⟨_, _, _, _, _, _, _, rfl, hTB8, hTW1.piv hpl b1 hc2, by simp [pivRows]; omega, by simp [pivRows]; omega, fun j h1 h2 => ?_⟩
          rw [List.length_set] at h2
          rcases Nat.lt_or_ge p j with q | q
          · have := hlow j (by omega) h2
            simpa [List.getD, List.getElem?_set_ne (show p ≠ j by omega)] using this
          · obtain rfl : j = p := by omega
            simp [List.getD, List.getElem?_set, hpb, hc1]
    · have hge := of_decide_eq_false hge
      refine ⟨_, _, _, rows1, bs1, sc1, goal1, rfl, hTB1, hTW1.mono (by show bw B i ≤ 2 * bw B i + 2; omega), hl1, by omega, fun j h1 h2 => ?_⟩
      rcases Nat.lt_or_ge p j with q | q
      · exact hlow j (by omega) h2
      · obtain rfl : j = p := by omega
        omega
  · obtain ⟨x2, x3, x4, rows1, bs1, sc1, goal1, rfl, hTB1, hTW1, hl1, hl2, hlow⟩ := h
    have hb5 := bw_le hB1 hB2 xs.length (by omega)
    have hpow : 2 ^ xs.length ≤ 32 := by
      have : xs.length ≤ 5 := by omega
      calc 2 ^ xs.length ≤ 2 ^ 5 := Nat.pow_le_pow_right (by decide) this
        _ = 32 := rfl
    refine hQ rows1 bs1 sc1 goal1 H1 hTB1 (hTW1.mono (by omega)) (by omega) fun b hb => ?_
    obtain ⟨j, hj, rfl⟩ := List.getElem_of_mem hb
    have := hlow j (by omega) hj
    simpa [List.getD, List.getElem?_eq_getElem hj] using this
end
end K49

namespace K49
open PySem PySem.Spec PyProof.Rows L2
open C8 (Cal Met Mak pe_c pe_mk pe_mt pe_mt0 pe_gc)
open Evl (Ex)
def lpOf (cols : List (List Int)) (b : List Int) (h : ∀ k, k < b.length → 0 ≤ b.getD k 0) : LP := ⟨cols.length, b.length, fun j k => (cols.getD j []).getD k 0, fun k => b.getD k 0, h⟩
/-- a table that was just made -/
structure TNew (C : Addr) (n : Nat) (rows : List (List Int)) (bs : List Nat) (m : Nat) (x : Addr) (H H' : Hp) : Prop where
  st : ∃ dx sa ra ba xs, H' x = some (.ins C dx (TF n sa ra ba 1)) ∧ H' ra = some (.lst xs) ∧ All (IsRwM [x, ra, ba]) H' xs rows ∧ H' ba = some (.lst (bs.map fun b => V.int (b : Nat))) ∧ H' sa = some (.lst ((List.replicate m (1 : Int)).map V.int)) ∧
    ra ≠ ba ∧ sa ≠ ra ∧ sa ≠ ba ∧ H ra = none ∧ H ba = none ∧ H sa = none
def spTabInit (C : Addr) : Sp := fun vs H Q _ => ∃ (x dx ca rb : Addr) (cols : List (List Int)) (b : List Int) (h : ∀ k, k < b.length → 0 ≤ b.getD k 0), vs = [.ref x, .ref ca, .ref rb] ∧ H x = some (.ins C dx []) ∧ Ls IsP H ca cols ∧ H rb = some (.lst (b.map V.int)) ∧
  (∀ p ∈ cols, p.length = b.length) ∧ cols.length ≤ 400 ∧ b.length ≤ 400 ∧
  ∀ H', (∀ c o, H c = some o → c ≠ x → H' c = some o) → TNew C cols.length (rowsOf (lpOf cols b h) (lpOf cols b h).start) (basOf (lpOf cols b h) (lpOf cols b h).start) b.length x H H' → Q .non H'
/-- one row of it -/
def rowAt (cols : List (List Int)) (b : List Int) (i : Nat) : List Int := (cols.map fun p => p.getD i 0) ++ ((List.range b.length).map fun j => if j = i then 1 else 0) ++ [b.getD i 0]
theorem start_rows (cols : List (List Int)) (b : List Int) (h : ∀ k, k < b.length → 0 ≤ b.getD k 0) : rowsOf (lpOf cols b h) (lpOf cols b h).start = (List.range b.length).map fun i => rowAt cols b i := by
  unfold rowsOf
  show (List.range b.length).map _ = _
  refine List.map_congr_left fun i hi => ?_
  have hi := List.mem_range.mp hi
  refine list_ext0 (by simp [rowAt, lpOf]; omega) fun j hj => ?_
  rw [List.length_map, List.length_range] at hj
  rw [rng_getD _ _ hj, LP.start_T j hi]
  have hn : (lpOf cols b h).n = cols.length := rfl
  have hm : (lpOf cols b h).m = b.length := rfl
  rw [hn, hm] at hj
  unfold LP.col rowAt
  rw [hn, hm]
  by_cases h1 : j < cols.length
  · rw [if_pos h1]
    show (cols.getD j []).getD i 0 = _
    simp [List.getD, List.getElem?_append, h1]
  · rw [if_neg h1]
    by_cases h2 : j < cols.length + b.length
    · rw [if_pos h2]
      have h3 : j - cols.length < b.length := by omega
      simp [unitR, List.getD, List.getElem?_append, h1, h2, h3]
    · rw [if_neg h2]
      have h3 : j = cols.length + b.length := by omega
      subst h3
      show b.getD i 0 = _
      simp [List.getD, List.getElem?_append]
theorem start_bas (cols : List (List Int)) (b : List Int) (h : ∀ k, k < b.length → 0 ≤ b.getD k 0) : basOf (lpOf cols b h) (lpOf cols b h).start = (List.range b.length).map fun i => cols.length + i := by
  unfold basOf
  show (List.range b.length).map _ = _
  refine List.map_congr_left fun i hi => ?_
  have hi := List.mem_range.mp hi
  unfold LP.start
  exact if_pos hi
section
variable {P : Program} {w : World} {K : PySem.W.Frag} {mg : Str → Option Value} {base : Heap}
theorem sc_Table_init : FnScope ["self", "columns", "rhs", "signs", "rows", "at", "sign", "units", "value", "other", "column"] ["self", "columns", "rhs"] (defScope s_Table_init) := C8.fnScope_by (by decide +kernel)
theorem mak_Table_init {x : Str} {C : Addr} (T : Txt mg) (D : Mkr K mg x C "Table.__init__" s_Table_init ["self", "columns", "rhs"])
    (nM : NoAttr K C "many") (nG : NoAttr K C "signs") (nR : NoAttr K C "rows") (nB : NoAttr K C "basis") (nS : NoAttr K C "scale") : Mak P w K mg base (1) x C (spTabInit C) [] := by
  have nd := sc_Table_init.nd
  refine D.mak sc_Table_init (fun vs H Q E h => by obtain ⟨x, dx, ca, rb, cols, b, h, rfl, hx, hL, hb, hpl, hn, hm, hQ⟩ := h; rfl) (fun f cdv A outer s H vs Q E hr h => ?_)
  obtain ⟨x, dx, ca, rb, cols, b, h, rfl, hx, hL, hb, hpl, hn, hm, hQ⟩ := h
  refine ⟨_, (pss_cons (ps_par (i := 3) (j := 4) rfl nd rfl rfl (by decide) rfl rfl (pa_cons (pe_lc rfl nd (kpi_list K (pv 2)) (blkOk_by (own := [("value", 8)]) (N := ["self", "columns", "rhs", "signs", "rows", "at", "sign", "units", "value", "other", "column"]) (sc := defScope s_Table_init) (by decide +kernel)) (fun _ _ _ _ _ => (pg_name (i := 8) nd rfl (Or.inl rfl))) (fun _ _ _ _ _ => pts_nil) (fun _ _ _ _ _ => (pe_ifExp (pt_cmpR op_lt (pv 8) pe_int (nomark _)) (pe_un un_neg pe_int) pe_int))) (pa_cons (pe_lst pa_nil) pa_nil)) rfl)
      (pss_cons (ps_for PassesOwn.never rfl (kpi_enum K rfl T.b_enumerate (pa_cons (pv 3) pa_nil)) (kpg_tup K 2 rfl (pgs_cons (pg_name (i := 5) nd rfl (Or.inr rfl)) (pgs_cons (pg_name (i := 6) nd rfl (Or.inr rfl)) pgs_nil))) (pss_cons (ps_setLc (i := 7) rfl nd rfl rfl (sw_true rfl rfl rfl (by decide +kernel)) (pi_range1 rfl T.b_range (pa_cons (pe_callB (klen K) rfl T.b_len PySem.boot_len (pa_cons (pv 2) pa_nil)) pa_nil)) (blkOk_by (own := [("other", 9)]) (N := ["self", "columns", "rhs", "signs", "rows", "at", "sign", "units", "value", "other", "column"]) (sc := defScope s_Table_init) (by decide +kernel)) (fun _ _ _ _ _ => (pg_name (i := 9) nd rfl (Or.inl rfl))) (fun _ _ _ _ _ => pts_nil) (fun _ _ _ _ _ => (pe_callTy call_int1 rfl T.b_int (by decide +kernel) (pa_cons (pe_cmpR op_eq (pv 9) (pv 5) (nomark _)) pa_nil))))
      (pss_one (ps_expr (kpe_bm K PySem.F.plainAttrs_list PySem.F.slot_list_append PySem.F.type_list_append mt_append (pv 4) (pa_cons (pe_op op_cat (pe_op op_cat (pe_lc rfl nd (kpi_list K (pv 1)) (blkOk_by (own := [("column", 10)]) (N := ["self", "columns", "rhs", "signs", "rows", "at", "sign", "units", "value", "other", "column"]) (sc := defScope s_Table_init) (by decide +kernel)) (fun _ _ _ _ _ => (pg_name (i := 10) nd rfl (Or.inl rfl))) (fun _ _ _ _ _ => pts_nil) (fun _ _ _ _ _ => (pe_op op_mul (pv 6) (pe_ix (kix_tup K) (pv 10) (pv 5) (fun _ _ => rfl))))) (pv 7)) (pe_lst (pa_cons (pe_op op_mul (pv 6) (pe_ix (kix_list K) (pv 2) (pv 5) (fun _ _ => rfl))) pa_nil))) pa_nil))))))
      (pss_cons (kps_fld K (pv 0) (pe_callB (klen K) rfl T.b_len PySem.boot_len (pa_cons (pv 1) pa_nil)) rfl)
      (pss_cons (kps_fld K (pv 0) (pv 3) rfl)
      (pss_cons (kps_fld K (pv 0) (pv 4) rfl)
      (pss_cons (kps_fld K (pv 0) (pe_lc rfl nd (pi_range1 rfl T.b_range (pa_cons (pe_callB (klen K) rfl T.b_len PySem.boot_len (pa_cons (pv 2) pa_nil)) pa_nil)) (blkOk_by (own := [("at", 5)]) (N := ["self", "columns", "rhs", "signs", "rows", "at", "sign", "units", "value", "other", "column"]) (sc := defScope s_Table_init) (by decide +kernel)) (fun _ _ _ _ _ => (pg_name (i := 5) nd rfl (Or.inl rfl))) (fun _ _ _ _ _ => pts_nil) (fun _ _ _ _ _ => (pe_op op_add (pe_callB (klen K) rfl T.b_len PySem.boot_len (pa_cons (pv 1) pa_nil)) (pv 5)))) rfl)
      (pss_one (kps_fld K (pv 0) pe_int rfl)))))))), ?_⟩
  obtain ⟨xs, hca, hxs⟩ := hL
  have hxl := hxs.length
  refine ⟨_, rfl, rb, rfl, ⟨_, SqL.of hb⟩, fun sa hsa => lc_data b (fun _ => true) IsI (fun _ => 1) (Y := YAt (b.map V.int)) (G := fun H => SqL K H rb (b.map V.int)) (by have z := walk_list (K := K) (a := rb) (xs := b.map V.int); rw [List.length_map] at z; exact z) tst_I (by omega) hsa (fun H e => SqL.of (e _ _ hb)) (fun i x H H' h => h.1 ▸ Ex.refl H) (fun j v y H9 H5 hv e5 hy Ky Kn k1 k2 => ?_) (fun H5 e5 hLs => ?_)⟩
  · obtain ⟨rfl, hyj⟩ := hy
    rw [List.getElem?_map, hv] at hyj
    obtain rfl := Option.some.inj hyj
    have hj := (List.getElem?_eq_some_iff.mp hv).1
    have hv0 : 0 ≤ v := by
      have := h j hj
      simpa [List.getD, hv] using this
    refine ⟨rfl, _, rfl, _, _, rfl, rfl, _, rfl, ?_⟩
    refine iteB (b := decide (v < 0)) (fun hg => ?_) (fun _ => k1 rfl _ _ (Ex.refl _) rfl)
    have := of_decide_eq_true hg
    omega
  · rw [filter_all] at hLs
    have hsa5 := ls_I hLs
    have hsl : ((b.map fun _ => (1 : Int)).map V.int).length = b.length := by rw [List.length_map, List.length_map]
    refine ⟨by show 0 ≤ sizeLine; decide, fun l hl => ⟨_, _, rfl, ?_⟩⟩
    have e6 : Ex H (upd H5 l (.lst [])) := e5.trans (Ex.new hl)
    have hsa6 : (upd H5 l (.lst [])) sa = some (.lst ((b.map fun _ => (1 : Int)).map V.int)) := (Ex.new hl) _ _ hsa5
    have hlf : H l = none := Evl.fresh_back e5 hl
    have nsl : sa ≠ l := ne_of_none hsa5 hl
    have nxl : x ≠ l := ne_of_none (e5 _ _ hx) hl
    refine ⟨_, rfl, sa, _, rfl, SqL.of hsa6, for_it (walk_enum (xs := (b.map fun _ => (1 : Int)).map V.int)) (fun i σ H' => Ex H H' ∧ (∃ x5 x6 x7 x8 x9 x10, σ = [some (.ref x), some (.ref ca), some (.ref rb), some (.ref sa), some (.ref l), x5, x6, x7, x8, x9, x10]) ∧ H' sa = some (.lst ((b.map fun _ => (1 : Int)).map V.int)) ∧ ∃ ys, H' l = some (.lst ys) ∧ All (IsRwM [x, l]) H' ys ((List.range i).map (rowAt cols b))) ⟨e6, ⟨_, _, _, _, _, _, rfl⟩, hsa6, [], upd_same, .nil⟩ (fun i σ H' _ h => SqL.of h.2.2.1) (fun i y σ H9 H' hi h hy => ?_) (fun σ H' h => ?_)⟩
    · obtain ⟨e, ⟨x5, x6, x7, x8, x9, x10, rfl⟩, hsa', ys, hl', hys⟩ := h
      obtain ⟨T1, y1, y2, rfl, hT, rfl, q1, q2⟩ := hy
      obtain rfl := Option.some.inj q1
      have q2 : ((b.map fun _ => (1 : Int)).map V.int)[i]? = some y2 := q2
      have hib : i < b.length := by omega
      have hy2 : y2 = .int 1 := by
        rw [List.getElem?_map, List.getElem?_map, List.getElem?_eq_getElem hib] at q2
        exact (Option.some.inj q2).symm
      subst hy2
      have eT := Ex.new (o := .tup [.int (i : Nat), .int 1]) hT
      have e7 := e.trans eT
      have hl7 := eT _ _ hl'
      have hsa7 := eT _ _ hsa'
      have hys7 := hys.mono (sst_RwM _) eT
      refine ⟨T1, _, rfl, SqT.of upd_same, rfl, _, _, rfl, _, _, rfl, rfl, ?_⟩
      generalize upd H9 T1 (.tup [.int (i : Nat), .int 1]) = H7 at e7 hl7 hsa7 hys7 ⊢
      have hyl := hys7.length
      rw [List.length_map, List.length_range] at hyl
      refine ⟨_, rfl, rb, _, rfl, .inl (SqL.of (e7 _ _ hb)), (((b.map V.int).length : Nat) : Int), rfl, by rw [List.length_map]; omega, by rw [List.length_map]; omega, fun F hF => lc_data (List.range b.length) (fun _ => true) IsI (fun j => if j = i then 1 else 0) (Y := YFn fun i => .int (0 + i)) (G := fun _ => True) (by have z := walk_range (lo := 0) (n := (((b.map V.int).length : Nat) : Int).toNat); rw [show (((b.map V.int).length : Nat) : Int).toNat = (List.range b.length).length by rw [List.length_range, List.length_map]; omega] at z ⊢; exact z) tst_I (by rw [List.length_range]; omega) hF (fun H e => trivial) (fun i x H H' h => h.1 ▸ Ex.refl H) (fun j d y H9 H8 hd e8 hy Ky Kn k1 k2 => ?_) (fun H8 e8 hL8 => ?_)⟩
      · obtain ⟨rfl, rfl⟩ := hy
        have hj : j < b.length := by
          have := (List.getElem?_eq_some_iff.mp hd).1
          rw [List.length_range] at this
          exact this
        rw [List.getElem?_range hj] at hd
        obtain rfl := Option.some.inj hd
        refine ⟨rfl, _, rfl, _, rfl, rfl, .inr ⟨_, rfl, k1 rfl _ _ (Ex.refl _) ?_⟩⟩
        show V.int _ = V.int _
        congr 1
        have ev : decide (V.int (0 + (j : Nat)) = V.int (i : Nat)) = decide (j = i) := by
          rw [Bool.eq_iff_iff, decide_eq_true_iff, decide_eq_true_iff]
          exact ⟨fun h => by have := V.int.inj h; omega, fun h => by rw [h, Int.zero_add]⟩
        rw [ev]
        by_cases hji : j = i <;> simp [hji]
      · rw [filter_all] at hL8
        have hF8 := ls_I hL8
        have e08 := e7.trans e8
        refine ⟨_, rfl, .inl ⟨rfl, _, SqL.of (e8 _ _ hl7)⟩, ?_⟩
        refine ⟨_, rfl, ca, rfl, ⟨xs, SqL.of (e08 _ _ hca)⟩, fun G hG => lc_data cols (fun _ => true) IsI (fun p => p.getD i 0) (Y := YAt xs) (G := fun H => SqL K H ca xs) (by have z := walk_list (K := K) (a := ca) (xs := xs); rw [hxl] at z; exact z) tst_I (by omega) hG (fun H e => SqL.of ((e08.trans e) _ _ hca)) (fun i x H H' h => h.1 ▸ Ex.refl H) (fun j p y H9 H10 hp e10 hy Ky Kn k1 k2 => ?_) (fun H10 e10 hL10 => ?_)⟩
        · obtain ⟨rfl, hyj⟩ := hy
          obtain ⟨p', hp', c, rfl, hc⟩ := paired_of hxs hyj
          obtain rfl := Option.some.inj (hp'.symm.trans hp)
          have hpl' := hpl p' (List.mem_of_getElem? hp)
          refine ⟨rfl, _, rfl, _, rfl, _, rfl, c, _, i, _, rfl, rfl, SqT.of ((e08.trans e10) _ _ hc), at_P (by omega), _, _, rfl, rfl, .inl (by decide), k1 rfl _ _ (Ex.refl _) (by show V.int (1 * _) = V.int _; rw [Int.one_mul])⟩
        · rw [filter_all] at hL10
          have hG10 := ls_I hL10
          have hF10 := e10 _ _ hF8
          refine ⟨_, rfl, G, F, _, _, rfl, rfl, hG10, hF10, by simp only [List.length_map, List.length_range]; exact sz (by omega), fun p1 hp1 => ?_⟩
          have e11 := Ex.new (o := .lst ((cols.map fun p => p.getD i 0).map V.int ++ ((List.range b.length).map fun j => if j = i then (1 : Int) else 0).map V.int)) hp1
          have hp1s : (upd H10 p1 (.lst ((cols.map fun p => p.getD i 0).map V.int ++ ((List.range b.length).map fun j => if j = i then (1 : Int) else 0).map V.int))) p1 = some (.lst ((cols.map fun p => p.getD i 0).map V.int ++ ((List.range b.length).map fun j => if j = i then (1 : Int) else 0).map V.int)) := upd_same
          generalize upd H10 p1 (.lst ((cols.map fun p => p.getD i 0).map V.int ++ ((List.range b.length).map fun j => if j = i then (1 : Int) else 0).map V.int)) = H11 at e11 hp1s ⊢
          have e011 := (e08.trans e10).trans e11
          refine ⟨_, rfl, _, rfl, _, rfl, rb, _, i, _, rfl, rfl, SqL.of (e011 _ _ hb), at_L hib, _, _, rfl, rfl, .inl (by decide), by show 1 ≤ sizeLine; decide, fun p2 hp2 => ?_⟩
          have e12 := Ex.new (o := .lst [.int (1 * b.getD i 0)]) hp2
          refine ⟨p1, p2, _, _, rfl, rfl, e12 _ _ hp1s, upd_same, by simp only [List.length_append, List.length_map, List.length_range, List.length_cons, List.length_nil]; exact sz (by omega), fun p3 hp3 => ?_⟩
          have e13 := Ex.new (o := .lst ((cols.map fun p => p.getD i 0).map V.int ++ ((List.range b.length).map fun j => if j = i then (1 : Int) else 0).map V.int ++ [.int (1 * b.getD i 0)])) hp3
          have eA := ((e8.trans e10).trans e11).trans (e12.trans e13)
          have hlA := eA _ _ hl7
          have np3 : p3 ≠ x ∧ p3 ≠ l := by
            have z := (((e8.trans e10).trans e11).trans e12)
            exact ⟨fun ee => (by rw [ee, z _ _ (e7 _ _ hx)] at hp3; cases hp3), fun ee => (by rw [ee, z _ _ hl7] at hp3; cases hp3)⟩
          refine ⟨l, ys, _, rfl, rfl, hlA, szl (by omega), Ex.mut (e7.trans eA) hlf, ⟨_, _, _, _, _, _, rfl⟩, by rw [upd_ne nsl]; exact eA _ _ hsa7, _, upd_same, ?_⟩
          rw [List.range_succ, List.map_append]
          refine paired_app (Paired.imp' (fun v d q => RwM_upd (by simp) (sst_RwM _ _ _ _ _ eA q)) hys7) (.cons ⟨p3, rfl, by simp [np3.1, np3.2], ?_⟩ .nil)
          rw [upd_ne np3.2, upd_same]
          unfold rowAt
          simp [Int.one_mul]
    · obtain ⟨e, ⟨x5, x6, x7, x8, x9, x10, rfl⟩, hsa', ys, hl', hys⟩ := h
      rw [hsl] at hys
      have hx' := e _ _ hx
      refine ⟨_, rfl, ca, _, rfl, .inl (SqL.of (e _ _ hca)), _, rfl, x, C, dx, _, rfl, hx', D.cl, nM, (by show 0 < 1000; decide), ?_⟩
      refine ⟨_, rfl, _, rfl, x, C, dx, _, rfl, upd_same, D.cl, nG, (by show 1 < 1000; decide), ?_⟩
      rw [upd_upd]
      refine ⟨_, rfl, _, rfl, x, C, dx, _, rfl, upd_same, D.cl, nR, (by show 2 < 1000; decide), ?_⟩
      rw [upd_upd]
      have nlx : l ≠ x := nxl.symm
      have nsx : sa ≠ x := fun ee => by rw [ee, hx'] at hsa'; cases hsa'
      have nca : ca ≠ x := ne_of hca hx (by intro z; cases z)
      have nrb : rb ≠ x := ne_of hb hx (by intro z; cases z)
      have g1 : (upd H' x (.ins C dx (putF "rows" (.ref l) (putF "signs" (.ref sa) (putF "many" (.int (xs.length : Nat)) []))))) x = some (.ins C dx (putF "rows" (.ref l) (putF "signs" (.ref sa) (putF "many" (.int (xs.length : Nat)) [])))) := upd_same
      have g2 : (upd H' x (.ins C dx (putF "rows" (.ref l) (putF "signs" (.ref sa) (putF "many" (.int (xs.length : Nat)) []))))) l = some (.lst ys) := by rw [upd_ne nlx]; exact hl'
      have g3 : (upd H' x (.ins C dx (putF "rows" (.ref l) (putF "signs" (.ref sa) (putF "many" (.int (xs.length : Nat)) []))))) sa = some (.lst ((b.map fun _ => (1 : Int)).map V.int)) := by rw [upd_ne nsx]; exact hsa'
      have g4 : (upd H' x (.ins C dx (putF "rows" (.ref l) (putF "signs" (.ref sa) (putF "many" (.int (xs.length : Nat)) []))))) ca = some (.lst xs) := by rw [upd_ne nca]; exact e _ _ hca
      have g5 : (upd H' x (.ins C dx (putF "rows" (.ref l) (putF "signs" (.ref sa) (putF "many" (.int (xs.length : Nat)) []))))) rb = some (.lst (b.map V.int)) := by rw [upd_ne nrb]; exact e _ _ hb
      have g6 : All (IsRwM [x, l]) (upd H' x (.ins C dx (putF "rows" (.ref l) (putF "signs" (.ref sa) (putF "many" (.int (xs.length : Nat)) []))))) ys ((List.range b.length).map (rowAt cols b)) := Paired.imp' (fun v d q => RwM_upd (by simp) q) hys
      have g7 : ∀ c o, H c = some o → c ≠ x → (upd H' x (.ins C dx (putF "rows" (.ref l) (putF "signs" (.ref sa) (putF "many" (.int (xs.length : Nat)) []))))) c = some o := fun c o hc hne => by rw [upd_ne hne]; exact e _ _ hc
      generalize upd H' x (.ins C dx (putF "rows" (.ref l) (putF "signs" (.ref sa) (putF "many" (.int (xs.length : Nat)) [])))) = H8 at g1 g2 g3 g4 g5 g6 g7 ⊢
      refine ⟨_, rfl, rb, _, rfl, .inl (SqL.of g5), (((b.map V.int).length : Nat) : Int), rfl, by rw [List.length_map]; omega, by rw [List.length_map]; omega, fun ba hba => lc_data (List.range b.length) (fun _ => true) IsI (fun j => ((cols.length + j : Nat) : Int)) (Y := YFn fun i => .int (0 + i)) (G := fun _ => True) (by have z := walk_range (lo := 0) (n := (((b.map V.int).length : Nat) : Int).toNat); rw [show (((b.map V.int).length : Nat) : Int).toNat = (List.range b.length).length by rw [List.length_range, List.length_map]; omega] at z ⊢; exact z) tst_I (by rw [List.length_range]; omega) hba (fun H e => trivial) (fun i x H H' h => h.1 ▸ Ex.refl H) (fun j d y H9 H10 hd e10 hy Ky Kn k1 k2 => ?_) (fun H10 e10 hL10 => ?_)⟩
      · obtain ⟨rfl, rfl⟩ := hy
        have hj : j < b.length := by
          have := (List.getElem?_eq_some_iff.mp hd).1
          rw [List.length_range] at this
          exact this
        rw [List.getElem?_range hj] at hd
        obtain rfl := Option.some.inj hd
        refine ⟨rfl, _, rfl, ca, _, rfl, .inl (SqL.of (e10 _ _ g4)), _, rfl, _, _, rfl, rfl, k1 rfl _ _ (Ex.refl _) ?_⟩
        show V.int _ = V.int _
        congr 1
        omega
      · rw [filter_all] at hL10
        have hba10 := ls_I hL10
        refine ⟨_, rfl, x, C, dx, _, rfl, e10 _ _ g1, D.cl, nB, (by show 3 < 1000; decide), ?_⟩
        refine ⟨_, rfl, x, C, dx, _, rfl, upd_same, D.cl, nS, (by show 4 < 1000; decide), ?_⟩
        rw [upd_upd]
        have eF : putF "scale" (.int 1) (putF "basis" (.ref ba) (putF "rows" (.ref l) (putF "signs" (.ref sa) (putF "many" (.int (xs.length : Nat)) [])))) = TF xs.length sa l ba 1 := by with_unfolding_all rfl
        rw [eF]
        have nbx : ba ≠ x := fun ee => by rw [ee, g1] at hba; cases hba
        have nbl : ba ≠ l := fun ee => by rw [ee, g2] at hba; cases hba
        have nbs : ba ≠ sa := fun ee => by rw [ee, g3] at hba; cases hba
        have hba0 : H ba = none := by
          cases hh : H ba with
          | none => rfl
          | some o =>
            rw [g7 _ _ hh nbx] at hba
            cases hba
        rw [start_rows, start_bas] at hQ
        refine hQ _ (fun c o hc hne => by rw [upd_ne hne]; exact e10 _ _ (g7 _ _ hc hne)) ⟨dx, sa, l, ba, ys, by rw [upd_same, hxl], by rw [upd_ne nlx]; exact e10 _ _ g2, ?_, ?_, ?_, nbl.symm, nsl, nbs.symm, hlf, hba0, hsa⟩
        · refine Paired.imp' (fun v d q => ?_) g6
          obtain ⟨a, rfl, ha1, ha2⟩ := q
          simp only [List.mem_cons, List.not_mem_nil, or_false, not_or] at ha1
          refine ⟨a, rfl, ?_, by rw [upd_ne ha1.1]; exact e10 _ _ ha2⟩
          simp only [List.mem_cons, List.not_mem_nil, or_false, not_or]
          exact ⟨ha1.1, ha1.2, fun ee => by rw [ee, hba] at ha2; cases ha2⟩
        · rw [upd_ne nbx, hba10, List.map_map, List.map_map]
          rfl
        · rw [upd_ne nsx, e10 _ _ g3]
          congr 3
          exact List.map_const ..
end
end K49

namespace K49
open PySem PySem.Spec PyProof.Rows L2
open C8 (Cal Met Mak pe_c pe_mk pe_mt pe_mt0 pe_gc)
open Evl (Ex)
def spLeast : Sp := fun vs H Q _ => ∃ (ca rb pa : Addr) (cols : List (List Int)) (b : List Int) (h : ∀ k, k < b.length → 0 ≤ b.getD k 0) (B : Nat), vs = [.ref ca, .ref rb, .ref pa] ∧ Ls IsP H ca cols ∧ H rb = some (.lst (b.map V.int)) ∧
  H pa = some (.lst ((List.replicate cols.length (0 : Int)).map V.int)) ∧ (∀ p ∈ cols, p.length = b.length) ∧ cols.length ≤ 400 ∧ 1 ≤ b.length ∧ b.length ≤ 5 ∧ LpB (lpOf cols b h) B ∧ B ≤ 200 ∧
  (∀ β k, (lpOf cols b h).Run k β → (∀ j, j < cols.length → 0 ≤ (lpOf cols b h).G β j) → (lpOf cols b h).G β (lpOf cols b h).rh < 0 → ∀ t mk H', Ex H H' → H' t = some (.tup [.str "none", .ref mk]) → H' mk = some (.lst (((List.range b.length).map fun k => (lpOf cols b h).y β k).map V.int)) → Q (.ref t) H') ∧
  (∀ β k, (lpOf cols b h).Run k β → 0 ≤ (lpOf cols b h).G β (lpOf cols b h).rh → ∀ t nb (ns : List Int) sc H', Ex H H' → H' t = some (.tup [.str "point", .ref nb, .int sc]) → H' nb = some (.lst (ns.map V.int)) → ns.length = cols.length → Q (.ref t) H')
theorem sum_sm (f : Nat → Int) : ∀ m, ((List.range m).map f).sum = sm m f
  | 0 => rfl
  | m + 1 => by
    rw [List.range_succ, List.map_append, List.sum_append, sum_sm f m]
    simp [sm]
theorem col_sum {P : LP} {β : Nat → Nat} {j : Nat} (hj : j ≤ P.n + P.m) : ((rowsOf P β).map fun r => r.getD j 0).sum = sm P.m fun i => P.T β i j := by
  unfold rowsOf
  rw [List.map_map, ← sum_sm]
  congr 1
  exact List.map_congr_left fun i _ => rng_getD _ _ (by omega)
theorem start_G (P : LP) (j : Nat) : P.G P.start j = P.pr j - sm P.m fun i => P.T P.start i j := by
  unfold LP.G
  rw [LP.start_d, Int.one_mul]
  congr 1
  refine sm_congr fun i hi => ?_
  have e : P.pr (P.start i) = 1 := by
    unfold LP.pr LP.start
    rw [if_pos hi, if_pos (by omega)]
  rw [e, Int.one_mul]
/-- the goal's row at the start -/
theorem start_goal (P : LP) : goalOf P P.start = (((List.range P.n).map fun j => -(((rowsOf P P.start).map fun r => r.getD j 0).sum)) ++ List.replicate P.m 0) ++ [-(((rowsOf P P.start).map fun r => r.getD (P.n + P.m) 0).sum)] := by
  refine list_ext0 (by simp [goalOf]; omega) fun j hj => ?_
  have hj : j < P.n + P.m + 1 := by simpa [goalOf] using hj
  rw [goalOf_at (by omega), start_G]
  by_cases h1 : j < P.n
  · have e : P.pr j = 0 := by unfold LP.pr; rw [if_neg (by omega)]
    rw [e, ← col_sum (by omega)]
    simp [List.getD, List.getElem?_append, h1, show j < P.n + P.m by omega]
  · by_cases h2 : j < P.n + P.m
    · have e : P.pr j = 1 := by unfold LP.pr; rw [if_pos (by omega)]
      have e2 : (sm P.m fun i => P.T P.start i j) = 1 := by
        rw [sm_one (r := j - P.n) (by omega) (fun i hi hne => ?_)]
        · rw [LP.start_T j (by omega)]
          unfold LP.col
          rw [if_neg h1, if_pos h2]
          simp [unitR]
        · show P.T P.start i j = 0
          rw [LP.start_T j hi]
          unfold LP.col
          rw [if_neg h1, if_pos h2]
          simp [unitR]
          omega
      rw [e, e2]
      have h3 : j - P.n < P.m := by omega
      simp [List.getD, List.getElem?_append, h1, h2, h3]
    · have h3 : j = P.n + P.m := by omega
      subst h3
      have e : P.pr (P.n + P.m) = 0 := by unfold LP.pr; rw [if_neg (by omega)]
      rw [e, ← col_sum (by omega)]
      simp [List.getD, List.getElem?_append]
theorem cut_mid {xs : List V} {n m : Nat} (h : xs.length = n + m + 1) : cutV xs (some (n : Int)) (some (-1)) = (xs.drop n).take m := by
  unfold cutV
  have e : HT.sIx xs.length xs.length (some (-1)) = n + m := by
    unfold HT.sIx
    simp [h]
    omega
  rw [HT.sIx_nat, e, Nat.min_eq_left (by omega)]
  congr 1
  omega
theorem getD_rep {n j : Nat} : (List.replicate n (0 : Int)).getD j 0 = 0 := by
  rw [List.getD, List.getElem?_replicate]
  split <;> rfl
section
variable {P : Program} {w : World} {K : PySem.W.Frag} {mg : Str → Option Value} {base : Heap}
theorem sc_least_price : FnScope ["columns", "rhs", "prices", "table", "goal", "numbers", "marks", "at", "row", "price", "entry", "other", "sign", "mark"] ["columns", "rhs", "prices"] (defScope s_least_price) := C8.fnScope_by (by decide +kernel)
theorem cal_least_price (T : Txt mg) (D : Dfn K mg "least_price" s_least_price ["columns", "rhs", "prices"] [])
    {C : Addr} (cl : Cls K C) (nM : NoAttr K C "many") (nG : NoAttr K C "signs") (nR : NoAttr K C "rows") (nB : NoAttr K C "basis") (nS : NoAttr K C "scale")
    (K_Table : Mak P w K mg base 1 "Table" C (spTabInit C) []) (M_improve : Met P w K mg base 3 C "improve" (spImprove C) []) (M_leave_artificial : Met P w K mg base 3 C "leave_artificial" (spLeaveA C) []) : Cal P w K mg base (4) "least_price" (spLeast) [] := by
  have nd := sc_least_price.nd
  refine D.cal sc_least_price (fun vs H Q E h => by obtain ⟨ca, rb, pa, cols, b, h, B, rfl, hL, hb, hpa, hpl, hn, hm1, hm, hB, hB2, hQ1, hQ2⟩ := h; rfl) (fun f cdv A outer s H vs Q E hr h => ?_)
  obtain ⟨ca, rb, pa, cols, b, h, B, rfl, hL, hb, hpa, hpl, hn, hm1, hm, hB, hB2, hQ1, hQ2⟩ := h
  refine ⟨_, (pss_cons (ps_set (i := 3) nd rfl (Or.inr rfl) (pe_mk K_Table hr (by decide) rfl (pa_cons (pv 0) (pa_cons (pv 1) pa_nil))))
      (pss_cons (ps_set (i := 4) nd rfl (Or.inl rfl) (pe_op op_cat (pe_lc rfl nd (pi_range1 rfl T.b_range (pa_cons (kpe_fld K (pv 3) rfl) pa_nil)) (blkOk_by (own := [("at", 7)]) (N := ["columns", "rhs", "prices", "table", "goal", "numbers", "marks", "at", "row", "price", "entry", "other", "sign", "mark"]) (sc := defScope s_least_price) (by decide +kernel)) (fun _ _ _ _ _ => (pg_name (i := 7) nd rfl (Or.inr rfl))) (fun _ _ _ _ _ => pts_nil) (fun _ _ _ _ _ => (pe_un un_neg (pe_callB (ksum K rfl) rfl T.b_sum (by decide +kernel) (pa_cons (pe_lc rfl nd (kpi_list K (kpe_fld K (pv 3) rfl)) (blkOk_by (own := [("row", 8)]) (N := ["columns", "rhs", "prices", "table", "goal", "numbers", "marks", "at", "row", "price", "entry", "other", "sign", "mark"]) rfl) (fun _ _ _ _ _ => (pg_name (i := 8) nd rfl (Or.inl rfl))) (fun _ _ _ _ _ => pts_nil) (fun _ _ _ _ _ => (pe_ix (kix_list K) (pv 8) (pv 7) (fun _ _ => rfl)))) pa_nil))))) (pe_op op_rep (pe_lst (pa_cons pe_int pa_nil)) (pe_callB (klen K) rfl T.b_len PySem.boot_len (pa_cons (pv 1) pa_nil)))))
      (pss_cons (ps_set (i := 4) nd rfl (Or.inl rfl) (pe_op op_cat (pv 4) (pe_lst (pa_cons (pe_un un_neg (pe_callB (ksum K rfl) rfl T.b_sum (by decide +kernel) (pa_cons (pe_lc rfl nd (kpi_list K (kpe_fld K (pv 3) rfl)) (blkOk_by (own := [("row", 8)]) (N := ["columns", "rhs", "prices", "table", "goal", "numbers", "marks", "at", "row", "price", "entry", "other", "sign", "mark"]) (sc := defScope s_least_price) (by decide +kernel)) (fun _ _ _ _ _ => (pg_name (i := 8) nd rfl (Or.inl rfl))) (fun _ _ _ _ _ => pts_nil) (fun _ _ _ _ _ => (pe_ix (kix_list K) (pv 8) (pe_un un_neg pe_int) (fun _ _ => rfl)))) pa_nil))) pa_nil))))
      (pss_cons (ps_expr (pe_mt M_improve hr (by decide) (pv 3) (pa_cons (pv 4) (pa_cons (kpe_fld K (pv 3) rfl) pa_nil))))
      (pss_cons (ps_if (pt_cmpR op_lt (pe_ix (kix_list K) (pv 4) (pe_un un_neg pe_int) (fun _ _ => rfl)) pe_int (nomark _)) (pss_cons (ps_set (i := 6) nd rfl (Or.inl rfl) (pe_slice (ksl_list K) (pv 4) (po_some (kpe_fld K (pv 3) rfl)) (po_some (pe_un un_neg pe_int))))
      (pss_one (ps_ret (pe_tup (pa_cons pe_str (pa_cons (pe_lc rfl nd (kpi_zip K rfl T.b_zip (pa_cons (kpe_fld K (pv 3) rfl) (pa_cons (pv 6) pa_nil))) (blkOk_by (own := [("sign", 12), ("mark", 13)]) (N := ["columns", "rhs", "prices", "table", "goal", "numbers", "marks", "at", "row", "price", "entry", "other", "sign", "mark"]) (sc := defScope s_least_price) (by decide +kernel)) (fun _ _ _ _ _ => (kpg_tup K 2 rfl (pgs_cons (pg_name (i := 12) nd rfl (Or.inl rfl)) (pgs_cons (pg_name (i := 13) nd rfl (Or.inl rfl)) pgs_nil)))) (fun _ _ _ _ _ => pts_nil) (fun _ _ _ _ _ => (pe_op op_mul (pv 12) (pe_op op_sub (kpe_fld K (pv 3) rfl) (pv 13))))) pa_nil)))))) pss_nil)
      (pss_cons (ps_expr (pe_mt M_leave_artificial hr (by decide) (pv 3) (pa_cons (pv 4) pa_nil)))
      (pss_cons (ps_set (i := 4) nd rfl (Or.inl rfl) (pe_op op_cat (pe_lc rfl nd (kpi_list K (pv 2)) (blkOk_by (own := [("price", 9)]) (N := ["columns", "rhs", "prices", "table", "goal", "numbers", "marks", "at", "row", "price", "entry", "other", "sign", "mark"]) (sc := defScope s_least_price) (by decide +kernel)) (fun _ _ _ _ _ => (pg_name (i := 9) nd rfl (Or.inl rfl))) (fun _ _ _ _ _ => pts_nil) (fun _ _ _ _ _ => (pe_op op_mul (pv 9) (kpe_fld K (pv 3) rfl)))) (pe_op op_rep (pe_lst (pa_cons pe_int pa_nil)) (pe_op op_add (pe_callB (klen K) rfl T.b_len PySem.boot_len (pa_cons (pv 1) pa_nil)) pe_int))))
      (pss_cons (ps_for PassesOwn.never rfl (kpi_enum K rfl T.b_enumerate (pa_cons (kpe_fld K (pv 3) rfl) pa_nil)) (kpg_tup K 2 rfl (pgs_cons (pg_name (i := 7) nd rfl (Or.inl rfl)) (pgs_cons (pg_name (i := 8) nd rfl (Or.inl rfl)) pgs_nil))) (pss_cons (ps_set (i := 9) nd rfl (Or.inr rfl) (pe_ix (kix_list K) (pv 2) (pe_ix (kix_list K) (kpe_fld K (pv 3) rfl) (pv 7) (fun _ _ => rfl)) (fun _ _ => rfl)))
      (pss_one (ps_setLc (i := 4) rfl nd rfl rfl (sw_true rfl rfl rfl (by decide +kernel)) (kpi_zip K rfl T.b_zip (pa_cons (pv 4) (pa_cons (pv 8) pa_nil))) (blkOk_by (own := [("entry", 10), ("other", 11)]) (N := ["columns", "rhs", "prices", "table", "goal", "numbers", "marks", "at", "row", "price", "entry", "other", "sign", "mark"]) (sc := defScope s_least_price) (by decide +kernel)) (fun _ _ _ _ _ => (kpg_tup K 2 rfl (pgs_cons (pg_name (i := 10) nd rfl (Or.inl rfl)) (pgs_cons (pg_name (i := 11) nd rfl (Or.inl rfl)) pgs_nil)))) (fun _ _ _ _ _ => pts_nil) (fun _ _ _ _ _ => (pe_op op_sub (pv 10) (pe_op op_mul (pv 9) (pv 11))))))))
      (pss_cons (ps_if (pt_not (pt_val (pe_mt M_improve hr (by decide) (pv 3) (pa_cons (pv 4) (pa_cons (kpe_fld K (pv 3) rfl) pa_nil))))) (pss_one (ps_ret (pe_tup (pa_cons pe_str pa_nil)))) pss_nil)
      (pss_cons (ps_set (i := 5) nd rfl (Or.inl rfl) (pe_op op_rep (pe_lst (pa_cons pe_int pa_nil)) (kpe_fld K (pv 3) rfl)))
      (pss_cons (ps_for PassesOwn.never rfl (kpi_enum K rfl T.b_enumerate (pa_cons (kpe_fld K (pv 3) rfl) pa_nil)) (kpg_tup K 2 rfl (pgs_cons (pg_name (i := 7) nd rfl (Or.inl rfl)) (pgs_cons (pg_name (i := 8) nd rfl (Or.inl rfl)) pgs_nil))) (pss_one (ps_asg (pe_ix (kix_list K) (pv 8) (pe_un un_neg pe_int) (fun _ _ => rfl)) (pg_sub (pv 5) (pe_ix (kix_list K) (kpe_fld K (pv 3) rfl) (pv 7) (fun _ _ => rfl)) set_list))))
      (pss_one (ps_ret (pe_tup (pa_cons pe_str (pa_cons (pv 5) (pa_cons (kpe_fld K (pv 3) rfl) pa_nil))))))))))))))))), ?_⟩
  refine ⟨_, rfl, _, rfl, ?_⟩
  intro x dx hx0 hdx hne
  have e1 : Ex H (upd (upd H dx (.own x)) x (.ins C dx [])) := (Ex.new hdx).trans (Ex.new (by rw [upd_ne hne.symm]; exact hx0))
  have hL1 := hL.mono tst_P.sst e1
  refine ⟨x, dx, ca, rb, cols, b, h, rfl, upd_same, hL1, e1 _ _ hb, hpl, hn, by omega, fun H2 hk hT => ?_⟩
  have e2 : Ex H H2 := fun c o hc => hk _ _ (e1 _ _ hc) (fun ee => by rw [ee, hx0] at hc; cases hc)
  obtain ⟨dx', sa, ra, ba, ys, hx, hra, hys, hba, hsa, n1, n2, n3, f1, f2, f3⟩ := hT.st
  refine ⟨rfl, ?_⟩
  have hn0 : (lpOf cols b h).n = cols.length := rfl
  have hm0 : (lpOf cols b h).m = b.length := rfl
  have hyl := hys.length
  rw [rowsOf_len, hm0] at hyl
  generalize hP : lpOf cols b h = LPP at *
  have rowS : ∀ (H' : Hp), Ex H2 H' → ∀ (i : Nat) (v : V), ys[i]? = some v → ∃ a, v = .ref a ∧ (rowsOf LPP LPP.start)[i]? = some ((rowsOf LPP LPP.start).getD i []) ∧ H' a = some (.lst (((rowsOf LPP LPP.start).getD i []).map V.int)) ∧ ((rowsOf LPP LPP.start).getD i []).length = LPP.n + LPP.m + 1 := fun H' e i v hv => by
    obtain ⟨r, hr, a, rfl, _, ha⟩ := paired_of hys hv
    have er : (rowsOf LPP LPP.start).getD i [] = r := by simp [List.getD, hr]
    rw [er]
    refine ⟨a, rfl, hr, e _ _ ha, ?_⟩
    obtain ⟨i', _, rfl⟩ := List.mem_map.mp (List.mem_of_getElem? hr)
    simp
  have hrl := rowsOf_len LPP LPP.start
  refine ⟨_, rfl, x, C, dx', _, _, rfl, hx, cl, nM, TF_many .., (cols.length : Int), rfl, by omega, by omega, fun F hF => lc_data (List.range cols.length) (fun _ => true) IsI (fun j => -(((rowsOf LPP LPP.start).map fun r => r.getD j 0).sum)) (Y := YFn fun i => .int (0 + i)) (G := fun _ => True) (by have z := walk_range (lo := 0) (n := (cols.length : Int).toNat); rw [show (cols.length : Int).toNat = (List.range cols.length).length by rw [List.length_range]; omega] at z ⊢; exact z) tst_I (by rw [List.length_range]; omega) hF (fun H e => trivial) (fun i x H H' h => h.1 ▸ Ex.refl H) (fun j d y H9 H5 hd e5 hy Ky Kn k1 k2 => ?_) (fun H5 e5 hLs => ?_)⟩
  · obtain ⟨rfl, rfl⟩ := hy
    have hj : j < cols.length := by
      have := (List.getElem?_eq_some_iff.mp hd).1
      rw [List.length_range] at this
      exact this
    rw [List.getElem?_range hj] at hd
    obtain rfl := Option.some.inj hd
    refine ⟨rfl, _, rfl, x, C, dx', _, _, rfl, e5 _ _ hx, cl, nR, TF_rows .., ra, rfl, ⟨ys, SqL.of (e5 _ _ hra)⟩, fun F2 hF2 => lc_data (rowsOf LPP LPP.start) (fun _ => true) IsI (fun r => r.getD j 0) (Y := YAt ys) (G := fun H => SqL K H ra ys) (by have z := walk_list (K := K) (a := ra) (xs := ys); rw [hyl] at z; rw [hrl, hm0]; exact z) tst_I (by omega) hF2 (fun H e => SqL.of ((e5.trans e) _ _ hra)) (fun i x H H' h => h.1 ▸ Ex.refl H) (fun i r y H9 H6 hr e6 hy Ky2 Kn2 k3 k4 => ?_) (fun H6 e6 hL6 => ?_)⟩
    · obtain ⟨rfl, hyi⟩ := hy
      obtain ⟨a, rfl, hr2, ha, hal⟩ := rowS _ (e5.trans e6) i y hyi
      obtain rfl := Option.some.inj (hr2.symm.trans hr)
      refine ⟨rfl, _, rfl, _, rfl, a, _, (0 + (j : Nat) : Int), _, rfl, rfl, SqL.of ha, by rw [show (0 : Int) + (j : Nat) = (j : Nat) by omega]; exact at_L (by omega), k3 rfl _ _ (Ex.refl _) rfl⟩
    · rw [filter_all] at hL6
      have hF6 := ls_I hL6
      exact ⟨F2, _, rfl, SqL.of hF6, _, rfl, k1 rfl _ _ e6 rfl⟩
  · rw [filter_all] at hLs
    have hF5 := ls_I hLs
    have e25 := e2.trans e5
    refine ⟨by show 1 ≤ sizeLine; decide, fun z0 hz0 => ?_⟩
    have e6 := Ex.new (o := .lst [.int 0]) hz0
    have e26 := e25.trans e6
    refine ⟨_, rfl, rb, _, rfl, .inl (SqL.of (e26 _ _ hb)), z0, _, [.int 0], rfl, rfl, upd_same, by rw [List.length_map]; omega, by rw [List.length_map]; omega, by simp; exact sz (by omega), fun wv hwv => ?_⟩
    have hrep : (List.replicate (((b.map V.int).length : Nat) : Int).toNat [V.int 0]).flatten = ((List.replicate b.length (0 : Int)).map V.int) := by
      rw [Int.toNat_natCast, List.length_map]
      simp
    rw [hrep] at ⊢
    have e7 := Ex.new (o := .lst ((List.replicate b.length (0 : Int)).map V.int)) hwv
    have hF7 := (e6.trans e7) _ _ hF5
    refine ⟨F, wv, _, _, rfl, rfl, hF7, upd_same, by simp only [List.length_map, List.length_range, List.length_replicate]; exact sz (by omega), fun p1 hp1 => ?_⟩
    have e8 := Ex.new (o := .lst (((List.range cols.length).map fun j => -(((rowsOf LPP LPP.start).map fun r => r.getD j 0).sum)).map V.int ++ (List.replicate b.length (0 : Int)).map V.int)) hp1
    have hp1s : (upd (upd (upd H5 z0 (.lst [.int 0])) wv (.lst ((List.replicate b.length (0 : Int)).map V.int))) p1 (.lst (((List.range cols.length).map fun j => -(((rowsOf LPP LPP.start).map fun r => r.getD j 0).sum)).map V.int ++ (List.replicate b.length (0 : Int)).map V.int))) p1 = _ := upd_same
    have e58 := (e6.trans e7).trans e8
    generalize upd (upd (upd H5 z0 (.lst [.int 0])) wv (.lst ((List.replicate b.length (0 : Int)).map V.int))) p1 (.lst (((List.range cols.length).map fun j => -(((rowsOf LPP LPP.start).map fun r => r.getD j 0).sum)).map V.int ++ (List.replicate b.length (0 : Int)).map V.int)) = H8 at e58 hp1s ⊢
    have e28 := e5.trans e58
    have hx8 := e28 _ _ hx
    refine ⟨_, rfl, _, rfl, x, C, dx', _, _, rfl, hx8, cl, nR, TF_rows .., ra, rfl, ⟨ys, SqL.of (e28 _ _ hra)⟩, fun F2 hF2 => lc_data (rowsOf LPP LPP.start) (fun _ => true) IsI (fun r => r.getD (LPP.n + LPP.m) 0) (Y := YAt ys) (G := fun H => SqL K H ra ys) (by have z := walk_list (K := K) (a := ra) (xs := ys); rw [hyl] at z; rw [hrl, hm0]; exact z) tst_I (by omega) hF2 (fun H e => SqL.of ((e28.trans e) _ _ hra)) (fun i x H H' h => h.1 ▸ Ex.refl H) (fun i r y H9 H9' hr e9 hy Ky2 Kn2 k3 k4 => ?_) (fun H9 e9 hL9 => ?_)⟩
    · obtain ⟨rfl, hyi⟩ := hy
      obtain ⟨a, rfl, hr2, ha, hal⟩ := rowS _ (e28.trans e9) i y hyi
      obtain rfl := Option.some.inj (hr2.symm.trans hr)
      exact ⟨rfl, _, rfl, 1, rfl, a, _, -1, _, rfl, rfl, SqL.of ha, at_m1 hal, k3 rfl _ _ (Ex.refl _) rfl⟩
    · rw [filter_all] at hL9
      have hF9 := ls_I hL9
      refine ⟨F2, _, rfl, SqL.of hF9, _, rfl, by show 1 ≤ sizeLine; decide, fun z1 hz1 => ?_⟩
      have e10 := Ex.new (o := .lst [.int (-(((rowsOf LPP LPP.start).map fun r => r.getD (LPP.n + LPP.m) 0).sum))]) hz1
      refine ⟨p1, z1, _, _, rfl, rfl, e10 _ _ (e9 _ _ hp1s), upd_same, by simp only [List.length_map, List.length_range, List.length_replicate, List.length_append, List.length_cons, List.length_nil]; exact sz (by omega), fun g hg => ?_⟩
      have hgs : (upd (upd H9 z1 (.lst [.int (-(((rowsOf LPP LPP.start).map fun r => r.getD (LPP.n + LPP.m) 0).sum))])) g (.lst (((List.range cols.length).map fun j => -(((rowsOf LPP LPP.start).map fun r => r.getD j 0).sum)).map V.int ++ (List.replicate b.length (0 : Int)).map V.int ++ [V.int (-(((rowsOf LPP LPP.start).map fun r => r.getD (LPP.n + LPP.m) 0).sum))]))) g = some (.lst ((goalOf LPP LPP.start).map V.int)) := by
        rw [upd_same, start_goal, List.map_append, List.map_append, hn0, hm0]
        rfl
      have e2A := (e28.trans e9).trans (e10.trans (Ex.new (o := .lst (((List.range cols.length).map fun j => -(((rowsOf LPP LPP.start).map fun r => r.getD j 0).sum)).map V.int ++ (List.replicate b.length (0 : Int)).map V.int ++ [V.int (-(((rowsOf LPP LPP.start).map fun r => r.getD (LPP.n + LPP.m) 0).sum))])) hg))
      have hgf : H2 g = none := Evl.fresh_back ((e28.trans e9).trans e10) hg
      generalize upd (upd H9 z1 (.lst [.int (-(((rowsOf LPP LPP.start).map fun r => r.getD (LPP.n + LPP.m) 0).sum))])) g (.lst (((List.range cols.length).map fun j => -(((rowsOf LPP LPP.start).map fun r => r.getD j 0).sum)).map V.int ++ (List.replicate b.length (0 : Int)).map V.int ++ [V.int (-(((rowsOf LPP LPP.start).map fun r => r.getD (LPP.n + LPP.m) 0).sum))])) = HA at hgs e2A ⊢
      have hxA := e2A _ _ hx
      have nag : ∀ a o, H2 a = some o → a ≠ g := fun a o ha ee => by rw [ee, hgf] at ha; cases ha
      have hg0 : H g = none := Evl.fresh_back e2 hgf
      -- the base that knows no part of the table
      obtain ⟨H0, hH0⟩ : ∃ H0 : Hp, H0 = fun a => if a ∈ [x, ra, ba, g] then none else HA a := ⟨_, rfl⟩
      have h0n : ∀ a, a ∈ [x, ra, ba, g] → H0 a = none := fun a ha => by rw [hH0]; exact if_pos ha
      have h0e : Ex H0 HA := fun a o ha => by
        rw [hH0] at ha
        have ha : (if a ∈ [x, ra, ba, g] then none else HA a) = some o := ha
        split at ha
        · cases ha
        · exact ha
      have h0b : Ex H H0 := fun a o ha => by
        rw [hH0]
        show (if a ∈ [x, ra, ba, g] then none else HA a) = some o
        rw [if_neg]
        · exact e2A _ _ (e2 _ _ ha)
        · intro hm
          simp only [List.mem_cons, List.not_mem_nil, or_false] at hm
          rcases hm with hm | hm | hm | hm <;> rw [hm] at ha
          · rw [hx0] at ha; cases ha
          · have ha := e1 _ _ ha; rw [f1] at ha; cases ha
          · have ha := e1 _ _ ha; rw [f2] at ha; cases ha
          · rw [hg0] at ha; cases ha
      have hTB : TB C H0 LPP.n x g sa (rowsOf LPP LPP.start) (basOf LPP LPP.start) (LPP.d LPP.start) (goalOf LPP LPP.start) HA := ⟨h0e, dx', ra, ba, ys, by rw [LP.start_d, hn0]; exact hxA, e2A _ _ hra, Paired.imp' (fun v d q => by
        obtain ⟨a, rfl, ha1, ha2⟩ := q
        simp only [List.mem_cons, List.not_mem_nil, or_false, not_or] at ha1
        refine ⟨a, rfl, ?_, e2A _ _ ha2⟩
        simp only [List.mem_cons, List.not_mem_nil, or_false, not_or]
        exact ⟨ha1.1, ha1.2.1, ha1.2.2, nag _ _ ha2⟩) hys, e2A _ _ hba, hgs, n1, nag _ _ hra, nag _ _ hba, h0n _ (by simp), h0n _ (by simp), h0n _ (by simp), h0n _ (by simp)⟩
      refine ⟨_, rfl, x, dx', _, rfl, hxA, TF_improve .., _, rfl, _, rfl, x, C, dx', _, _, rfl, hxA, cl, nM, TF_many .., x, g, cols.length, goalOf LPP LPP.start, rfl, hgs, by simp [goalOf]; omega, by omega, .inr ⟨H0, sa, LPP, LPP.start, 0, B, rfl, hn0.symm, hTB, LP.Run.nil, hB, fun β k H3 hrun hG hTB3 => ?_⟩⟩
      obtain ⟨dx3, ra3, ba3, xs3, hx3, hra3, hxs3, hba3, hg3, _⟩ := hTB3.st
      have e03 := hTB3.ex
      have eH3 := h0b.trans e03
      have sa0 : H0 sa = some (.lst ((List.replicate b.length (1 : Int)).map V.int)) := by
        rw [hH0]
        show (if sa ∈ [x, ra, ba, g] then none else HA sa) = _
        rw [if_neg]
        · exact e2A _ _ hsa
        · intro hm
          simp only [List.mem_cons, List.not_mem_nil, or_false] at hm
          rcases hm with hm | hm | hm | hm
          · rw [hm, hx] at hsa; cases hsa
          · exact n2 hm
          · exact n3 hm
          · exact nag _ _ hsa hm
      have hsa3 := e03 _ _ sa0
      refine ⟨_, rfl, 1, rfl, g, _, -1, _, rfl, rfl, SqL.of hg3, at_m1 (L := LPP.n + LPP.m) (by simp [goalOf]), _, _, rfl, rfl, _, rfl, ?_⟩
      rw [goalOf_at (Nat.le_refl _)]
      refine iteB (b := decide (LPP.G β (LPP.n + LPP.m) < 0)) (fun hneg => ?_) (fun hneg => ?_)
      · have hneg := of_decide_eq_true hneg
        refine ⟨_, rfl, _, rfl, x, C, dx3, _, _, rfl, hx3, cl, nM, TF_many .., (LPP.n : Int), rfl, 1, rfl, -1, rfl, g, _, rfl, SqL.of hg3, fun mk hmk => ?_⟩
        rw [cut_mid (n := LPP.n) (m := LPP.m) (by simp [goalOf])]
        have hmv : ((((goalOf LPP β).map V.int).drop LPP.n).take LPP.m) = ((List.range b.length).map fun k => LPP.G β (LPP.n + k)).map V.int := by
          rw [← List.map_drop, ← List.map_take]
          congr 1
          refine list_ext0 (by simp [goalOf]; omega) fun j hj => ?_
          have hj : j < b.length := by simp [goalOf] at hj; omega
          rw [rng_getD _ _ hj]
          have := goalOf_at (P := LPP) (β := β) (j := LPP.n + j) (by omega)
          rw [← this]
          simp [List.getD, List.getElem?_take, List.getElem?_drop, show j < LPP.m by omega]
        rw [hmv]
        have e4 := Ex.new (o := .lst (((List.range b.length).map fun k => LPP.G β (LPP.n + k)).map V.int)) hmk
        have hmk4 : (upd H3 mk (.lst (((List.range b.length).map fun k => LPP.G β (LPP.n + k)).map V.int))) mk = some (.lst (((List.range b.length).map fun k => LPP.G β (LPP.n + k)).map V.int)) := upd_same
        generalize upd H3 mk (.lst (((List.range b.length).map fun k => LPP.G β (LPP.n + k)).map V.int)) = H4 at e4 hmk4 ⊢
        refine ⟨_, rfl, x, C, dx3, _, _, rfl, e4 _ _ hx3, cl, nG, TF_signs .., _, rfl, sa, mk, _, _, rfl, SqL.of (e4 _ _ hsa3), SqL.of hmk4, fun F3 hF3 => lc_data (List.range b.length) (fun _ => true) IsI (fun k => LPP.y β k) (Y := YPair (fun i => ((List.replicate b.length (1 : Int)).map V.int)[i]?) (fun i => (((List.range b.length).map fun k => LPP.G β (LPP.n + k)).map V.int)[i]?)) (G := fun H => SqL K H sa ((List.replicate b.length (1 : Int)).map V.int) ∧ SqL K H mk (((List.range b.length).map fun k => LPP.G β (LPP.n + k)).map V.int)) (walk_zip (by simp)) tst_I (by simp; omega) hF3 (fun H e => ⟨SqL.of ((e4.trans e) _ _ hsa3), SqL.of (e _ _ hmk4)⟩) (fun i x H H' h => by obtain ⟨T1, y1, y2, _, hT, rfl, _⟩ := h; exact Ex.new hT) (fun j d z H9 H5 hd e5 hz Ky Kn k1 k2 => ?_) (fun H5 e5 hLs => ?_)⟩
        · obtain ⟨T1, y1, y2, rfl, hT, rfl, q1, q2⟩ := hz
          have q1 : ((List.replicate b.length (1 : Int)).map V.int)[j]? = some y1 := q1
          have q2 : (((List.range b.length).map fun k => LPP.G β (LPP.n + k)).map V.int)[j]? = some y2 := q2
          have hj : j < b.length := by
            have := (List.getElem?_eq_some_iff.mp hd).1
            rw [List.length_range] at this
            exact this
          rw [List.getElem?_range hj] at hd
          obtain rfl := Option.some.inj hd
          have hy1 : y1 = .int 1 := by
            rw [List.getElem?_map, List.getElem?_replicate, if_pos hj] at q1
            exact (Option.some.inj q1).symm
          have hy2 : y2 = .int (LPP.G β (LPP.n + j)) := by
            rw [List.getElem?_map, List.getElem?_map, List.getElem?_range hj] at q2
            exact (Option.some.inj q2).symm
          subst hy1
          subst hy2
          have eT := Ex.new (o := .tup [.int 1, .int (LPP.G β (LPP.n + j))]) hT
          refine ⟨T1, _, rfl, SqT.of upd_same, rfl, _, _, rfl, _, _, rfl, rfl, rfl, ?_⟩
          refine ⟨_, rfl, _, rfl, x, C, dx3, _, _, rfl, ((e4.trans e5).trans eT) _ _ hx3, cl, nS, TF_scale .., _, rfl, _, _, rfl, rfl, _, _, rfl, rfl, .inl (by decide), k1 rfl _ _ (Ex.refl _) ?_⟩
          show V.int (1 * _) = V.int _
          rw [Int.one_mul]
          rfl
        · rw [filter_all] at hLs
          have hF35 := ls_I hLs
          refine ⟨by show 2 ≤ sizeLine; decide, fun t ht => ?_⟩
          have e6 := Ex.new (o := .tup [.str "none", .ref F3]) ht
          exact hQ1 β k hrun (fun j hj => hG j (by omega)) hneg t F3 _ (eH3.trans ((e4.trans e5).trans e6)) upd_same (e6 _ _ hF35)
      · have hpos : 0 ≤ LPP.G β LPP.rh := by have := of_decide_eq_false hneg; unfold LP.rh; omega
        have g3 := hrun.good
        have hTW : TW LPP.n (LPP.n + LPP.m + 1) B (rowsOf LPP β) (basOf LPP β) (LPP.d β) (goalOf LPP β) := ⟨by simp [basOf, rowsOf], fun r hr => by
          obtain ⟨i, hi, rfl⟩ := List.mem_map.mp hr
          refine ⟨by simp, fun z hz => ?_⟩
          obtain ⟨j, _, rfl⟩ := List.mem_map.mp hz
          exact hB.T _ _ _, by simp [goalOf], fun z hz => by
          obtain ⟨j, _, rfl⟩ := List.mem_map.mp hz
          exact hB.G _ _, by have := g3.pos; omega, hB.d β⟩
        refine ⟨_, rfl, x, dx3, _, rfl, hx3, TF_leave .., _, rfl, H0, LPP.n, x, g, sa, rowsOf LPP β, basOf LPP β, LPP.d β, goalOf LPP β, LPP.n + LPP.m + 1, B, rfl, hTB3, hTW, by rw [rowsOf_len]; omega, by omega, by omega, hB.lo, hB2, fun rows4 bs4 sc4 goal4 H4 hTB4 hTW4 hl4 hb4 => ?_⟩
        obtain ⟨dx4, ra4, ba4, xs4, hx4, hra4, hxs4, hba4, hg4, _⟩ := hTB4.st
        have eH4 := h0b.trans hTB4.ex
        have hpa4 := eH4 _ _ hpa
        refine ⟨_, rfl, pa, rfl, ⟨_, SqL.of hpa4⟩, fun F4 hF4 => lc_data (List.replicate cols.length (0 : Int)) (fun _ => true) IsI (fun _ => 0) (Y := YAt ((List.replicate cols.length (0 : Int)).map V.int)) (G := fun H => SqL K H pa ((List.replicate cols.length (0 : Int)).map V.int)) (by have z := walk_list (K := K) (a := pa) (xs := (List.replicate cols.length (0 : Int)).map V.int); rw [List.length_map] at z; exact z) tst_I (by rw [List.length_replicate]; omega) hF4 (fun H e => SqL.of (e _ _ hpa4)) (fun i x H H' h => h.1 ▸ Ex.refl H) (fun j v y Hx H9 hv e9 hy Ky Kn k1 k2 => ?_) (fun H5 e5 hL5 => ?_)⟩
        · obtain ⟨rfl, hyj⟩ := hy
          have hv0 : v = 0 := (List.mem_replicate.mp (List.mem_of_getElem? hv)).2
          rw [List.getElem?_map, hv] at hyj
          obtain rfl := Option.some.inj hyj
          subst hv0
          refine ⟨rfl, _, rfl, _, rfl, x, C, dx4, _, _, rfl, e9 _ _ hx4, cl, nS, TF_scale .., _, _, rfl, rfl, .inl (by decide), k1 rfl _ _ (Ex.refl _) ?_⟩
          show V.int (0 * _) = V.int 0
          rw [Int.zero_mul]
        · rw [filter_all] at hL5
          have hF5b := ls_I hL5
          have e45 := eH4.trans e5
          refine ⟨by show 1 ≤ sizeLine; decide, fun z5 hz5 => ?_⟩
          have e6 := Ex.new (o := .lst [.int 0]) hz5
          refine ⟨_, rfl, rb, _, rfl, .inl (SqL.of ((e45.trans e6) _ _ hb)), _, _, rfl, rfl, z5, _, [.int 0], rfl, rfl, upd_same, by rw [List.length_map]; omega, by rw [List.length_map]; omega, by simp; exact sz (by omega), fun wv hwv => ?_⟩
          have hrep2 : (List.replicate ((((b.map V.int).length : Nat) : Int) + 1).toNat [V.int 0]).flatten = ((List.replicate (b.length + 1) (0 : Int)).map V.int) := by
            rw [show ((((b.map V.int).length : Nat) : Int) + 1).toNat = b.length + 1 by rw [List.length_map]; omega]
            simp
          rw [hrep2]
          have e7 := Ex.new (o := .lst ((List.replicate (b.length + 1) (0 : Int)).map V.int)) hwv
          have hF7b := (e6.trans e7) _ _ hF5b
          refine ⟨F4, wv, _, _, rfl, rfl, hF7b, upd_same, by simp only [List.length_map, List.length_replicate]; exact sz (by omega), fun g2 hg2 => ?_⟩
          have hz0 : ((b.map V.int).length) = b.length := List.length_map ..
          have hcat : ((List.replicate cols.length (0 : Int)).map fun _ => (0 : Int)).map V.int ++ (List.replicate (b.length + 1) (0 : Int)).map V.int = (List.replicate (LPP.n + LPP.m + 1) (0 : Int)).map V.int := by
            rw [← List.map_append, List.map_replicate, List.replicate_append_replicate, hn0, hm0, Nat.add_assoc]
          rw [hcat]
          have e8 := Ex.new (o := .lst ((List.replicate (LPP.n + LPP.m + 1) (0 : Int)).map V.int)) hg2
          have hg2s : (upd (upd (upd H5 z5 (.lst [.int 0])) wv (.lst ((List.replicate (b.length + 1) (0 : Int)).map V.int))) g2 (.lst ((List.replicate (LPP.n + LPP.m + 1) (0 : Int)).map V.int))) g2 = some (.lst ((List.replicate (LPP.n + LPP.m + 1) (0 : Int)).map V.int)) := upd_same
          have e48 := ((e5.trans e6).trans e7).trans e8
          generalize upd (upd (upd H5 z5 (.lst [.int 0])) wv (.lst ((List.replicate (b.length + 1) (0 : Int)).map V.int))) g2 (.lst ((List.replicate (LPP.n + LPP.m + 1) (0 : Int)).map V.int)) = H8b at e48 hg2s ⊢
          have hx8b := e48 _ _ hx4
          have hxl4 := hxs4.length
          refine ⟨_, rfl, x, C, dx4, _, _, rfl, hx8b, cl, nR, TF_rows .., ra4, xs4, rfl, SqL.of (e48 _ _ hra4), for_it (walk_enum (xs := xs4)) (fun i σ H' => Ex H4 H' ∧ ∃ gg x7 x8 x9 x10 x11, σ = [some (.ref ca), some (.ref rb), some (.ref pa), some (.ref x), some (.ref gg), none, none, x7, x8, x9, x10, x11, none, none] ∧ H' gg = some (.lst ((List.replicate (LPP.n + LPP.m + 1) (0 : Int)).map V.int))) ⟨e48, g2, _, _, _, _, _, rfl, hg2s⟩ (fun i σ H' _ h => SqL.of (h.1 _ _ hra4)) (fun i y σ H9 H' hi h hy => ?_) (fun σ H' h => ?_)⟩
          · obtain ⟨e, gg, x7, x8, x9, x10, x11, rfl, hgg⟩ := h
            obtain ⟨T1, y1, y2, rfl, hT, rfl, q1, q2⟩ := hy
            obtain rfl := Option.some.inj q1
            have q2 : xs4[i]? = some y2 := q2
            obtain ⟨r, hr, a, rfl, _, ha⟩ := paired_of hxs4 q2
            have hi4 : i < rows4.length := (List.getElem?_eq_some_iff.mp hr).1
            have hib : i < bs4.length := by have := hTW4.len; omega
            have hbn : bs4.getD i 0 < cols.length := by
              have := hb4 (bs4.getD i 0) (List.mem_of_getElem? (getD_of_lt hib))
              omega
            have eT := e.trans (Ex.new (o := .tup [.int (i : Nat), .ref a]) hT)
            refine ⟨T1, _, rfl, SqT.of upd_same, rfl, _, _, rfl, _, _, rfl, rfl, ?_⟩
            have hgT := (Ex.new (o := .tup [.int (i : Nat), .ref a]) hT) _ _ hgg
            generalize upd H9 T1 (.tup [.int (i : Nat), .ref a]) = HT at eT hgT ⊢
            refine ⟨_, rfl, _, rfl, x, C, dx4, _, _, rfl, eT _ _ hx4, cl, nB, TF_basis .., _, rfl, ba4, _, i, _, rfl, rfl, SqL.of (eT _ _ hba4), at_N hib, pa, _, (bs4.getD i 0 : Nat), .int 0, rfl, rfl, SqL.of (eT _ _ hpa4), ?_, ?_⟩
            · have z := at_L (p := List.replicate cols.length (0 : Int)) (i := bs4.getD i 0) (by rw [List.length_replicate]; exact hbn)
              rw [z]
              have hbn' : bs4[i]?.getD 0 < cols.length := hbn
              simp [List.getD, List.getElem?_replicate, hbn']
            · have hrl4 := (hTW4.row r (List.mem_of_getElem? hr)).1
              have haT := eT _ _ ha
              refine ⟨_, rfl, _, rfl, gg, a, _, _, rfl, SqL.of hgT, SqL.of haT, fun F5 hF5' => lc_data (List.range (LPP.n + LPP.m + 1)) (fun _ => true) IsI (fun _ => 0) (Y := YPair (fun i => ((List.replicate (LPP.n + LPP.m + 1) (0 : Int)).map V.int)[i]?) (fun i => (r.map V.int)[i]?)) (G := fun H => SqL K H gg ((List.replicate (LPP.n + LPP.m + 1) (0 : Int)).map V.int) ∧ SqL K H a (r.map V.int)) (walk_zip (by simp [hrl4])) tst_I (by simp; omega) hF5' (fun H e => ⟨SqL.of (e _ _ hgT), SqL.of (e _ _ haT)⟩) (fun i x H H' h => by obtain ⟨T1, y1, y2, _, hT, rfl, _⟩ := h; exact Ex.new hT) (fun j d z H9 H5 hd e5 hz Ky Kn k1 k2 => ?_) (fun H5 e5 hLs => ?_)⟩
              · obtain ⟨T1, y1, y2, rfl, hT, rfl, q1, q2⟩ := hz
                have q1 : ((List.replicate (LPP.n + LPP.m + 1) (0 : Int)).map V.int)[j]? = some y1 := q1
                have q2 : (r.map V.int)[j]? = some y2 := q2
                have hj : j < LPP.n + LPP.m + 1 := by
                  have := (List.getElem?_eq_some_iff.mp hd).1
                  rw [List.length_range] at this
                  exact this
                have hy1 : y1 = .int 0 := by
                  rw [List.getElem?_map, List.getElem?_replicate, if_pos hj] at q1
                  exact (Option.some.inj q1).symm
                obtain ⟨o, _, rfl⟩ : ∃ o, r[j]? = some o ∧ V.int o = y2 := by
                  rw [List.getElem?_map] at q2
                  exact Option.map_eq_some_iff.mp q2
                subst hy1
                refine ⟨T1, _, rfl, SqT.of upd_same, rfl, _, _, rfl, _, _, rfl, rfl, rfl, ?_⟩
                refine ⟨_, rfl, _, rfl, _, rfl, _, _, rfl, rfl, .inl (by decide), _, _, rfl, rfl, k1 rfl _ _ (Ex.refl _) ?_⟩
                show V.int (0 - 0 * _) = V.int 0
                rw [Int.zero_mul]
                rfl
              · rw [filter_all] at hLs
                have hz9 := ls_I hLs
                refine ⟨eT.trans e5, F5, _, _, _, _, _, rfl, ?_⟩
                rw [hz9]
                simp [List.map_const']
          · obtain ⟨e, gg, x7, x8, x9, x10, x11, rfl, hgg⟩ := h
            have hx5 := e _ _ hx4
            refine ⟨_, rfl, x, dx4, _, rfl, hx5, TF_improve .., _, rfl, _, rfl, x, C, dx4, _, _, rfl, hx5, cl, nM, TF_many .., x, gg, LPP.n, List.replicate (LPP.n + LPP.m + 1) (0 : Int), rfl, hgg, by rw [List.length_replicate]; omega, by omega, .inl ⟨fun j hj => by rw [getD_rep]; exact Int.le_refl _, fun H6 e6 => ?_⟩⟩
            refine ⟨true, rfl, iteF ?_⟩
            have e46 := e.trans e6
            refine ⟨by show 1 ≤ sizeLine; decide, fun z6 hz6 => ?_⟩
            have e7 := e46.trans (Ex.new (o := .lst [.int 0]) hz6)
            refine ⟨_, rfl, x, C, dx4, _, _, rfl, e7 _ _ hx4, cl, nM, TF_many .., z6, (LPP.n : Int), [.int 0], rfl, rfl, upd_same, by omega, by omega, by simp; exact sz (by omega), fun nb hnb => ?_⟩
            have hrep3 : (List.replicate ((LPP.n : Int)).toNat [V.int 0]).flatten = ((List.replicate LPP.n (0 : Int)).map V.int) := by
              rw [Int.toNat_natCast]
              simp
            rw [hrep3]
            have hnb4 : H4 nb = none := Evl.fresh_back e7 hnb
            have e8 := e7.trans (Ex.new (o := .lst ((List.replicate LPP.n (0 : Int)).map V.int)) hnb)
            have hnbs : (upd (upd H6 z6 (.lst [.int 0])) nb (.lst ((List.replicate LPP.n (0 : Int)).map V.int))) nb = some (.lst ((List.replicate LPP.n (0 : Int)).map V.int)) := upd_same
            generalize upd (upd H6 z6 (.lst [.int 0])) nb (.lst ((List.replicate LPP.n (0 : Int)).map V.int)) = H8c at e8 hnbs ⊢
            refine ⟨_, rfl, x, C, dx4, _, _, rfl, e8 _ _ hx4, cl, nR, TF_rows .., ra4, xs4, rfl, SqL.of (e8 _ _ hra4), for_it (walk_enum (xs := xs4)) (fun i σ H'' => Ex H4 H'' ∧ ∃ (ns : List Int), ns.length = LPP.n ∧ H'' nb = some (.lst (ns.map V.int)) ∧ ∃ y7 y8 y9 y10 y11, σ = [some (.ref ca), some (.ref rb), some (.ref pa), some (.ref x), some (.ref gg), some (.ref nb), none, y7, y8, y9, y10, y11, none, none]) ⟨e8, _, by simp, hnbs, _, _, _, _, _, rfl⟩ (fun i σ H' _ h => SqL.of (h.1 _ _ hra4)) (fun i y σ H9 H'' hi h hy => ?_) (fun σ H'' h => ?_)⟩
            · obtain ⟨e9, ns, hnl, hns, y7, y8, y9, y10, y11, rfl⟩ := h
              obtain ⟨T1, y1, y2, rfl, hT, rfl, q1, q2⟩ := hy
              obtain rfl := Option.some.inj q1
              have q2 : xs4[i]? = some y2 := q2
              obtain ⟨r, hr, a, rfl, _, ha⟩ := paired_of hxs4 q2
              have hi4 : i < rows4.length := (List.getElem?_eq_some_iff.mp hr).1
              have hib : i < bs4.length := by have := hTW4.len; omega
              have hbn : bs4.getD i 0 < LPP.n := by
                have := hb4 (bs4.getD i 0) (List.mem_of_getElem? (getD_of_lt hib))
                omega
              have eT := e9.trans (Ex.new (o := .tup [.int (i : Nat), .ref a]) hT)
              refine ⟨T1, _, rfl, SqT.of upd_same, rfl, _, _, rfl, _, _, rfl, rfl, ?_⟩
              have hnT := (Ex.new (o := .tup [.int (i : Nat), .ref a]) hT) _ _ hns
              generalize upd H9 T1 (.tup [.int (i : Nat), .ref a]) = HT at eT hnT ⊢
              have hrl4 := (hTW4.row r (List.mem_of_getElem? hr)).1
              refine ⟨_, rfl, 1, rfl, a, _, -1, _, rfl, rfl, SqL.of (eT _ _ ha), at_m1 hrl4, ?_⟩
              refine ⟨_, rfl, _, rfl, x, C, dx4, _, _, rfl, eT _ _ hx4, cl, nB, TF_basis .., _, rfl, ba4, _, i, _, rfl, rfl, SqL.of (eT _ _ hba4), at_N hib, ?_⟩
              refine ⟨nb, _, _, bs4.getD i 0, rfl, rfl, hnT, by unfold ixN; rw [List.length_map, if_pos (by omega), if_pos (by omega), Int.toNat_natCast], ?_⟩
              exact ⟨Ex.mut eT hnb4, ns.set (bs4.getD i 0) (r.getD (LPP.n + LPP.m) 0), by rw [List.length_set, hnl], by rw [upd_same, List.map_set], _, _, _, _, _, rfl⟩
            · obtain ⟨e9, ns, hnl, hns, y7, y8, y9, y10, y11, rfl⟩ := h
              refine ⟨_, rfl, _, rfl, x, C, dx4, _, _, rfl, e9 _ _ hx4, cl, nS, TF_scale .., by show 3 ≤ sizeLine; decide, fun t ht => ?_⟩
              have e10 := Ex.new (o := .tup [.str "point", .ref nb, .int sc4]) ht
              exact hQ2 β k hrun hpos t nb ns sc4 _ ((eH4.trans e9).trans e10) upd_same (e10 _ _ hns) (by omega)
end
end K49

namespace K49
open PySem PySem.Spec PyProof.Rows L2
open C8 (Cal Met Mak pe_c pe_mk pe_mt pe_mt0 pe_gc)
open Evl (Ex)
abbrev ptsOf (vw : View) (b : Bool) : List (List Int) := (withLabel vw b).map fun d => d.2
def spJudgeHalf : Sp := fun vs H Q _ => ∃ (k : Nat) (v : Addr) (vw : View), vs = [.int k, .ref v] ∧ 1 ≤ k ∧ k ≤ 3 ∧ Ls IsVw H v vw ∧ vw.length ≤ 100 ∧ (∀ d ∈ vw, d.2.1.length = k ∧ RowB 7 d.2.1) ∧ RJ (HP k (ptsOf vw true) (ptsOf vw false)) H Q
theorem cat_PP {K : PySem.W.Frag} {p q : List Int} {H : Hp} {v : V} {b : Addr} {Q : VK} (hv : IsP H v p) (hb : H b = some (.tup (q.map V.int))) (hl : p.length ≤ 1000) (hl2 : q.length ≤ 1000) (hq : q ≠ []) (z : ∀ v' H', Ex H H' → IsP H' v' (p ++ q) → Q v' H') : rCatA K v (.ref b) H Q := by
  obtain ⟨a, rfl, ha⟩ := hv
  refine ⟨a, b, _, _, rfl, rfl, SqT.of ha, SqT.of hb, by rw [List.length_map, List.length_map]; exact sz (by omega), fun h => ?_, fun _ h => absurd (List.map_eq_nil_iff.mp h) hq, fun _ _ t ht => ?_⟩
  · have e : p = [] := List.map_eq_nil_iff.mp h
    subst e
    exact z _ H (Ex.refl H) ⟨b, rfl, hb⟩
  · refine z _ _ (Ex.new ht) ⟨t, rfl, ?_⟩
    rw [upd_same, List.map_append]
theorem lpB_of {cols : List (List Int)} {b : List Int} {h : ∀ k, k < b.length → 0 ≤ b.getD k 0} (hc : ∀ c ∈ cols, RowB 7 c) (hb : RowB 7 b) (hm : b.length ≤ 5) (hn : cols.length ≤ 400) : LpB (lpOf cols b h) 60 := by
  have hA : ∀ j k, j < (lpOf cols b h).n → k < (lpOf cols b h).m → ((lpOf cols b h).A j k).natAbs ≤ 127 := fun j k hj _ => by
    have hj : j < cols.length := hj
    have e : cols.getD j [] = cols[j] := by simp [List.getD, List.getElem?_eq_getElem hj]
    have : Bnd 7 ((cols.getD j []).getD k 0) := by
      rw [e]
      exact (hc _ (List.getElem_mem hj)).getD (by decide) k
    exact Nat.le_of_lt_succ this
  have hB : ∀ k, k < (lpOf cols b h).m → ((lpOf cols b h).b k).natAbs ≤ 127 := fun k _ => Nat.le_of_lt_succ (hb.getD (by decide) k)
  have hm' : (lpOf cols b h).m ≤ 5 := hm
  have hd : (6 : Nat) * detMax 127 (lpOf cols b h).m < 2 ^ 60 := by
    have : (lpOf cols b h).m = 0 ∨ (lpOf cols b h).m = 1 ∨ (lpOf cols b h).m = 2 ∨ (lpOf cols b h).m = 3 ∨ (lpOf cols b h).m = 4 ∨ (lpOf cols b h).m = 5 := by omega
    rcases this with e | e | e | e | e | e <;> rw [e] <;> decide
  have hg : ((lpOf cols b h).m + 1) * detMax 127 (lpOf cols b h).m < 2 ^ 60 := Nat.lt_of_le_of_lt (Nat.mul_le_mul_right _ (by omega)) hd
  exact ⟨fun β i j => Nat.lt_of_le_of_lt (LP.T_bound (by decide) hA hB i j) (by omega), fun β j => Nat.lt_of_le_of_lt (LP.G_bound (by decide) hA hB j) hg, fun β => Nat.lt_of_le_of_lt (LP.d_bound (by decide) hA hB) (by omega), by decide, by decide, hn, by omega⟩
theorem halfCols_ok {k : Nat} {ys ns : List (List Int)} (h1 : ∀ p ∈ ys, p.length = k ∧ RowB 7 p) (h2 : ∀ p ∈ ns, p.length = k ∧ RowB 7 p) : ∀ c ∈ halfCols ys ns, c.length = k + 2 ∧ RowB 7 c := fun c hc => by
  rcases List.mem_append.mp hc with hc | hc
  · obtain ⟨p, hp, rfl⟩ := List.mem_map.mp hc
    refine ⟨by rw [yesCol, List.length_append, (h1 p hp).1]; rfl, fun x hx => ?_⟩
    rcases List.mem_append.mp hx with q | q
    · exact (h1 p hp).2 x q
    · simp at q
      rcases q with rfl | rfl <;> (unfold Bnd; decide)
  · obtain ⟨p, hp, rfl⟩ := List.mem_map.mp hc
    refine ⟨by rw [noCol, List.length_append, List.length_map, (h2 p hp).1]; rfl, fun x hx => ?_⟩
    rcases List.mem_append.mp hx with q | q
    · obtain ⟨y, hy, rfl⟩ := List.mem_map.mp q
      have := (h2 p hp).2 y hy
      unfold Bnd at *
      omega
    · simp at q
      rcases q with rfl | rfl <;> (unfold Bnd; decide)
theorem halfB_ok (k : Nat) : RowB 7 (halfB k) := fun x hx => by
  rcases List.mem_append.mp hx with q | q
  · rw [(List.mem_replicate.mp q).2]
    exact (by decide : (0 : Int).natAbs < 2 ^ 7)
  · simp at q
    rw [q]
    exact (by decide : (1 : Int).natAbs < 2 ^ 7)
theorem wipe_in {σ : L2.St} {i : Nat} : ∀ {vs : List Nat}, i ∈ vs → (wipe σ vs)[i]? = (σ[i]?).map fun _ => none
  | [], h => nomatch h
  | v :: vs, h => by
    show ((wipe σ vs).set v none)[i]? = _
    by_cases e : v = i
    · subst e
      by_cases hl : v < σ.length
      · rw [List.getElem?_set_self (by rw [wipe_length]; exact hl), List.getElem?_eq_getElem hl]
        rfl
      · rw [List.getElem?_eq_none (by rw [List.length_set, wipe_length]; omega), List.getElem?_eq_none (by omega)]
        rfl
    · rw [List.getElem?_set_ne e]
      exact wipe_in ((List.mem_cons.mp h).resolve_left (Ne.symm e))
theorem wipe_set {σ : L2.St} {i : Nat} {x : Option V} {vs : List Nat} (h : i ∈ vs) : wipe (σ.set i x) vs = wipe σ vs := by
  refine List.ext_getElem? fun j => ?_
  by_cases e : j ∈ vs
  · rw [wipe_in e, wipe_in e, List.getElem?_set]
    split
    · rename_i q
      subst q
      split
      · rename_i hl
        rw [List.getElem?_eq_getElem hl]
        rfl
      · rename_i hl
        rw [List.getElem?_eq_none (by omega)]
    · rfl
  · rw [wipe_out e, wipe_out e, List.getElem?_set_ne (fun q => e (by rw [← q]; exact h))]
theorem wipe_wipe {σ : L2.St} {vs : List Nat} : wipe (wipe σ vs) vs = wipe σ vs := by
  refine List.ext_getElem? fun j => ?_
  by_cases e : j ∈ vs
  · rw [wipe_in e, wipe_in e]
    cases σ[j]? <;> rfl
  · rw [wipe_out e]
theorem wipe3 {σ : L2.St} {i j k : Nat} {x y z : Option V} {vs : List Nat} (hi : i ∈ vs) (hj : j ∈ vs) (hk : k ∈ vs) : wipe ((((wipe σ vs).set i x).set j y).set k z) vs = wipe σ vs := by
  rw [wipe_set hk, wipe_set hj, wipe_set hi, wipe_wipe]
section
variable {P : Program} {w : World} {K : PySem.W.Frag} {mg : Str → Option Value} {base : Heap}
theorem sc_judge_half : FnScope ["places", "view", "columns", "found", "weights", "ahead", "behind", "yeses", "noes", "marks", "number", "point", "weight", "entry", "mark"] ["places", "view"] (defScope s_judge_half) := C8.fnScope_by (by decide +kernel)
theorem cal_judge_half (T : Txt mg) (D : Dfn K mg "judge_half" s_judge_half ["places", "view"] [])
    (C_with_label : Cal P w K mg base 1 "with_label" spWith []) (C_least_price : Cal P w K mg base 4 "least_price" spLeast []) : Cal P w K mg base (5) "judge_half" (spJudgeHalf) [] := by
  have nd := sc_judge_half.nd
  refine D.cal sc_judge_half (fun vs H Q E h => by obtain ⟨k, v, vw, rfl, hk1, hk3, hL, hn, hpl, hQ⟩ := h; rfl) (fun f cdv A outer s H vs Q E hr h => ?_)
  obtain ⟨k, v, vw, rfl, hk1, hk3, hL, hn, hpl, hQ⟩ := h
  refine ⟨_, (pss_cons (ps_par (i := 7) (j := 8) rfl nd rfl rfl (by decide) rfl rfl (pa_cons (pe_c C_with_label hr (by decide) rfl (pa_cons (pv 1) (pa_cons pe_bl pa_nil))) (pa_cons (pe_c C_with_label hr (by decide) rfl (pa_cons (pv 1) (pa_cons pe_bl pa_nil))) pa_nil)) rfl)
      (pss_cons (ps_setLc (i := 2) rfl nd rfl rfl (sw_true rfl rfl rfl (by decide +kernel)) (kpi_list K (pv 7)) (blkOk_by (own := [("number", 10), ("point", 11)]) (N := ["places", "view", "columns", "found", "weights", "ahead", "behind", "yeses", "noes", "marks", "number", "point", "weight", "entry", "mark"]) (sc := defScope s_judge_half) (by decide +kernel)) (fun _ _ _ _ _ => (kpg_tup K 2 rfl (pgs_cons (pg_name (i := 10) nd rfl (Or.inl rfl)) (pgs_cons (pg_name (i := 11) nd rfl (Or.inl rfl)) pgs_nil)))) (fun _ _ _ _ _ => pts_nil) (fun _ _ _ _ _ => (pe_op (kcat K) (kpe_tupleOf K rfl T.b_tuple (pv 11)) (pe_tup (pa_cons pe_int (pa_cons pe_int pa_nil))))))
      (pss_cons (ps_expr (kpe_bm K PySem.F.plainAttrs_list PySem.F.slot_list_extend PySem.F.type_list_extend mt_extend (pv 2) (pa_cons (pe_lc rfl nd (kpi_list K (pv 8)) (blkOk_by (own := [("number", 10), ("point", 11)]) (N := ["places", "view", "columns", "found", "weights", "ahead", "behind", "yeses", "noes", "marks", "number", "point", "weight", "entry", "mark"]) (sc := defScope s_judge_half) (by decide +kernel)) (fun _ _ _ _ _ => (kpg_tup K 2 rfl (pgs_cons (pg_name (i := 10) nd rfl (Or.inl rfl)) (pgs_cons (pg_name (i := 11) nd rfl (Or.inl rfl)) pgs_nil)))) (fun _ _ _ _ _ => pts_nil) (fun _ _ _ _ _ => (pe_op (kcat K) (kpe_tupleOf K rfl T.b_tuple (pe_lc rfl nd (kpi_tup K (pv 11)) (blkOk_by (own := [("entry", 13)]) (N := ["places", "view", "columns", "found", "weights", "ahead", "behind", "yeses", "noes", "marks", "number", "point", "weight", "entry", "mark"]) rfl) (fun _ _ _ _ _ => (pg_name (i := 13) nd rfl (Or.inl rfl))) (fun _ _ _ _ _ => pts_nil) (fun _ _ _ _ _ => (pe_un un_neg (pv 13))))) (pe_tup (pa_cons pe_int (pa_cons pe_int pa_nil)))))) pa_nil)))
      (pss_cons (ps_set (i := 3) nd rfl (Or.inl rfl) (pe_c C_least_price hr (by decide) rfl (pa_cons (pv 2) (pa_cons (pe_op op_cat (pe_op op_rep (pe_lst (pa_cons pe_int pa_nil)) (pv 0)) (pe_lst (pa_cons pe_int (pa_cons pe_int pa_nil)))) (pa_cons (pe_op op_rep (pe_lst (pa_cons pe_int pa_nil)) (pe_callB (klen K) rfl T.b_len PySem.boot_len (pa_cons (pv 2) pa_nil))) pa_nil)))))
      (pss_cons (ps_if (pt_cmpR op_eq (pe_ix (kix_tup K) (pv 3) pe_int (fun _ _ => rfl)) pe_str (nomark _)) (pss_cons (ps_set (i := 9) nd rfl (Or.inl rfl) (pe_ix (kix_tup K) (pv 3) pe_int (fun _ _ => rfl)))
      (pss_one (ps_ret (pe_tup (pa_cons (pe_tup (pa_cons pe_str (pa_cons (kpe_tupleOf K rfl T.b_tuple (pe_lc rfl nd (kpi_list K (pe_slice (ksl_list K) (pv 9) po_none (po_some (pv 0)))) (blkOk_by (own := [("mark", 14)]) (N := ["places", "view", "columns", "found", "weights", "ahead", "behind", "yeses", "noes", "marks", "number", "point", "weight", "entry", "mark"]) (sc := defScope s_judge_half) (by decide +kernel)) (fun _ _ _ _ _ => (pg_name (i := 14) nd rfl (Or.inl rfl))) (fun _ _ _ _ _ => pts_nil) (fun _ _ _ _ _ => (pe_un un_neg (pv 14))))) (pa_cons (pe_ix (kix_list K) (pv 9) (pv 0) (fun _ _ => rfl)) pa_nil)))) (pa_cons pe_non pa_nil)))))) pss_nil)
      (pss_cons (ps_set (i := 4) nd rfl (Or.inl rfl) (pe_ix (kix_tup K) (pv 3) pe_int (fun _ _ => rfl)))
      (pss_cons (ps_setLc (i := 5) rfl nd rfl rfl (sw_true rfl rfl rfl (by decide +kernel)) (kpi_zip K rfl T.b_zip (pa_cons (pv 7) (pa_cons (pv 4) pa_nil))) (blkOk_by (own := [("weight", 12), ("number", 10), ("point", 11)]) (N := ["places", "view", "columns", "found", "weights", "ahead", "behind", "yeses", "noes", "marks", "number", "point", "weight", "entry", "mark"]) (sc := defScope s_judge_half) (by decide +kernel)) (fun _ _ _ _ _ => (kpg_tup K 2 rfl (pgs_cons (kpg_tup K 2 rfl (pgs_cons (pg_name (i := 10) nd rfl (Or.inl rfl)) (pgs_cons (pg_name (i := 11) nd rfl (Or.inl rfl)) pgs_nil))) (pgs_cons (pg_name (i := 12) nd rfl (Or.inl rfl)) pgs_nil)))) (fun _ _ _ _ _ => (pts_one (pt_cmpR op_gt (pv 12) pe_int (nomark _)))) (fun _ _ _ _ _ => (pe_tup (pa_cons (pv 10) (pa_cons (pv 12) pa_nil)))))
      (pss_cons (ps_setLc (i := 6) rfl nd rfl rfl (sw_true rfl rfl rfl (by decide +kernel)) (kpi_zip K rfl T.b_zip (pa_cons (pv 8) (pa_cons (pe_slice (ksl_list K) (pv 4) (po_some (pe_callB (klen K) rfl T.b_len PySem.boot_len (pa_cons (pv 7) pa_nil))) po_none) pa_nil))) (blkOk_by (own := [("weight", 12), ("number", 10), ("point", 11)]) (N := ["places", "view", "columns", "found", "weights", "ahead", "behind", "yeses", "noes", "marks", "number", "point", "weight", "entry", "mark"]) (sc := defScope s_judge_half) (by decide +kernel)) (fun _ _ _ _ _ => (kpg_tup K 2 rfl (pgs_cons (kpg_tup K 2 rfl (pgs_cons (pg_name (i := 10) nd rfl (Or.inl rfl)) (pgs_cons (pg_name (i := 11) nd rfl (Or.inl rfl)) pgs_nil))) (pgs_cons (pg_name (i := 12) nd rfl (Or.inl rfl)) pgs_nil)))) (fun _ _ _ _ _ => (pts_one (pt_cmpR op_gt (pv 12) pe_int (nomark _)))) (fun _ _ _ _ _ => (pe_tup (pa_cons (pv 10) (pa_cons (pv 12) pa_nil)))))
      (pss_one (ps_ret (pe_tup (pa_cons pe_non (pa_cons (pe_tup (pa_cons pe_str (pa_cons (pv 5) (pa_cons (pv 6) pa_nil)))) pa_nil))))))))))))), ?_⟩
  have wpl : ∀ b, ∀ d ∈ withLabel vw b, d.2.length = k ∧ RowB 7 d.2 := fun b d hd => by
    obtain ⟨d', hd', rfl⟩ := List.mem_map.mp hd
    exact hpl d' (List.mem_filter.mp hd').1
  have wl : ∀ b, (withLabel vw b).length ≤ 100 := fun b => by
    unfold withLabel
    rw [List.length_map]
    exact Nat.le_trans (List.length_filter_le _ _) hn
  have wpp : ∀ b, ∀ p ∈ ptsOf vw b, p.length = k ∧ RowB 7 p := fun b p hp => by
    obtain ⟨d, hd, rfl⟩ := List.mem_map.mp hp
    exact wpl b d hd
  refine ⟨_, rfl, v, true, vw, rfl, hL, (by omega : vw.length ≤ 1000), fun p H1 hp e1 hLp => ?_⟩
  refine ⟨_, rfl, v, false, vw, rfl, hL.mono tst_Vw.sst e1, (by omega : vw.length ≤ 1000), fun p2 H2 hp2 e2 hLp2 => ?_⟩
  obtain ⟨ys, hp1, hys⟩ := hLp
  obtain ⟨zs, hpz, hzs⟩ := hLp2
  have hyl := hys.length
  have hzl := hzs.length
  have hp12 := e2 _ _ hp1
  have hys2 := hys.mono tst_NP.sst e2
  have e02 := e1.trans e2
  refine ⟨_, _, rfl, _, rfl, p, rfl, ⟨ys, SqL.of hp12⟩, fun D hD => lc_data (withLabel vw true) (fun _ => true) IsP (fun d => yesCol d.2) (Y := YAt ys) (G := fun H => SqL K H p ys) (by have z := walk_list (K := K) (a := p) (xs := ys); rw [hyl] at z; exact z) tst_P (by have := wl true; omega) hD (fun H e => SqL.of (e _ _ hp12)) (fun i x H H' h => h.1 ▸ Ex.refl H) (fun j l z H9 H5 hl e5 hz Ky Kn k1 k2 => ?_) (fun H3 e3 hLs => ?_)⟩
  · obtain ⟨rfl, hzj⟩ := hz
    obtain ⟨l', hl', hr2⟩ := paired_of hys2 hzj
    obtain rfl := Option.some.inj (hl'.symm.trans hl)
    obtain ⟨b2, y2, rfl, hb2, pa, rfl, hpa⟩ := tst_NP _ _ _ _ (Ex.tex e5) hr2
    have hll := (wpl true l' (List.mem_of_getElem? hl)).1
    refine ⟨b2, _, rfl, SqT.of hb2, rfl, _, _, rfl, _, _, rfl, rfl, rfl, _, rfl, .inr ⟨pa, _, rfl, SqT.of hpa, by show 2 ≤ sizeLine; decide, fun t ht => ?_⟩⟩
    have eT := Ex.new (o := .tup [.int 1, .int 0]) ht
    exact cat_PP (q := [1, 0]) ⟨pa, rfl, eT _ _ hpa⟩ upd_same (by omega) (by decide) (by decide) fun v' H' e7 hv' => k1 rfl _ _ (eT.trans e7) hv'
  · rw [filter_all] at hLs
    obtain ⟨cs, hD3, hcs⟩ := hLs
    have hpz3 := e3 _ _ hpz
    have hzs3 := hzs.mono tst_NP.sst e3
    have hcl := hcs.length
    refine ⟨_, rfl, .inl ⟨rfl, _, SqL.of hD3⟩, _, rfl, p2, rfl, ⟨zs, SqL.of hpz3⟩, fun D2 hD2 => lc_data (withLabel vw false) (fun _ => true) IsP (fun d => noCol d.2) (Y := YAt zs) (G := fun H => SqL K H p2 zs) (by have z := walk_list (K := K) (a := p2) (xs := zs); rw [hzl] at z; exact z) tst_P (by have := wl false; omega) hD2 (fun H e => SqL.of (e _ _ hpz3)) (fun i x H H' h => h.1 ▸ Ex.refl H) (fun j l z H9 H5 hl e5 hz Ky Kn k1 k2 => ?_) (fun H4 e4 hLs => ?_)⟩
    · obtain ⟨rfl, hzj⟩ := hz
      obtain ⟨l', hl', hr2⟩ := paired_of hzs3 hzj
      obtain rfl := Option.some.inj (hl'.symm.trans hl)
      obtain ⟨b2, y2, rfl, hb2, pa, rfl, hpa⟩ := tst_NP _ _ _ _ (Ex.tex e5) hr2
      have hll := (wpl false l' (List.mem_of_getElem? hl)).1
      refine ⟨b2, _, rfl, SqT.of hb2, rfl, _, _, rfl, _, _, rfl, rfl, rfl, _, rfl, pa, rfl, ⟨_, SqT.of hpa⟩, fun F hF => lc_data l'.2 (fun _ => true) IsI (fun x => -x) (Y := YAt (l'.2.map V.int)) (G := fun H => SqT K H pa (l'.2.map V.int)) (by have z := walk_tup (K := K) (a := pa) (xs := l'.2.map V.int); rw [List.length_map] at z; exact z) tst_I (by omega) hF (fun H e => SqT.of (e _ _ hpa)) (fun i x H H' h => h.1 ▸ Ex.refl H) (fun i d x H H' hd e hy Ky2 Kn2 k3 k4 => ?_) (fun H7 e7 hL7 => ?_)⟩
      · obtain ⟨rfl, hx⟩ := hy
        rw [List.getElem?_map, hd] at hx
        obtain rfl := Option.some.inj hx
        exact ⟨rfl, _, rfl, d, rfl, k3 rfl _ _ (Ex.refl _) rfl⟩
      · rw [filter_all] at hL7
        refine .inl ⟨F, _, rfl, SqL.of (ls_I hL7), fun q hq => ⟨by show 2 ≤ sizeLine; decide, fun t ht => ?_⟩⟩
        have eQ := Ex.new (o := .tup ((l'.2.map fun x => -x).map V.int)) hq
        have eT := Ex.new (o := .tup [.int 0, .int 1]) ht
        exact cat_PP (q := [0, 1]) ⟨q, rfl, eT _ _ upd_same⟩ upd_same (by rw [List.length_map]; omega) (by decide) (by decide) fun v' H' e8 hv' => k1 rfl _ _ (((e7.trans eQ).trans eT).trans e8) hv'
    · rw [filter_all] at hLs
      obtain ⟨ds, hD24, hds⟩ := hLs
      have hdl := hds.length
      rw [List.length_map] at hcl hdl
      have hD4 := e4 _ _ hD3
      have w1 := wl true
      have w2 := wl false
      refine ⟨D, D2, cs, ds, rfl, rfl, hD4, hD24, sz (by omega), ?_⟩
      have hDH : H D = none := Evl.fresh_back e02 hD
      have e5 : Ex H (upd H4 D (.lst (cs ++ ds))) := Ex.mut ((e02.trans e3).trans e4) hDH
      have t5 : TEx H4 (upd H4 D (.lst (cs ++ ds))) := TEx.lst _ hD4
      have nD : ∀ a o, H2 a = some o → a ≠ D := fun a o h e => by rw [e, hD] at h; cases h
      have f1 : (upd H4 D (.lst (cs ++ ds))) p = some (.lst ys) := by rw [upd_ne (nD _ _ hp12)]; exact (e3.trans e4) _ _ hp12
      have f2 : (upd H4 D (.lst (cs ++ ds))) p2 = some (.lst zs) := by rw [upd_ne (nD _ _ hpz)]; exact (e3.trans e4) _ _ hpz
      have f3 : All IsNP (upd H4 D (.lst (cs ++ ds))) ys (withLabel vw true) := (hys2.mono tst_NP.sst (e3.trans e4)).tmono tst_NP t5
      have f4 : All IsNP (upd H4 D (.lst (cs ++ ds))) zs (withLabel vw false) := (hzs3.mono tst_NP.sst e4).tmono tst_NP t5
      have f5 : Ls IsP (upd H4 D (.lst (cs ++ ds))) D (halfCols (ptsOf vw true) (ptsOf vw false)) := by
        refine ⟨_, upd_same, ?_⟩
        unfold halfCols ptsOf
        rw [List.map_map, List.map_map]
        exact paired_app ((hcs.mono tst_P.sst e4).tmono tst_P t5) (hds.tmono tst_P t5)
      have f6 : (upd H4 D (.lst (cs ++ ds))) D = some (.lst (cs ++ ds)) := upd_same
      generalize upd H4 D (.lst (cs ++ ds)) = H5 at e5 f1 f2 f3 f4 f5 f6 ⊢
      have hcn : (halfCols (ptsOf vw true) (ptsOf vw false)).length = cs.length + ds.length := by
        unfold halfCols ptsOf
        rw [List.length_append, List.length_map, List.length_map, List.length_map, List.length_map]
        omega
      have hco := halfCols_ok (k := k) (wpp true) (wpp false)
      refine ⟨_, rfl, by show 1 ≤ sizeLine; decide, fun z1 hz1 => ⟨_, rfl, z1, (k : Int), [.int 0], rfl, rfl, upd_same, by omega, by omega, by simp; exact sz (by omega), fun w1' hw1 => ⟨by show 2 ≤ sizeLine; decide, fun q hq => ?_⟩⟩⟩
      have hrep : (List.replicate (k : Int).toNat [V.int 0]).flatten = ((List.replicate k (0 : Int)).map V.int) := by
        rw [Int.toNat_natCast]
        simp
      rw [hrep] at hq ⊢
      have e6 := (Ex.new (o := .lst [.int 0]) hz1).trans (Ex.new (o := .lst ((List.replicate k (0 : Int)).map V.int)) hw1)
      have eq := Ex.new (o := .lst [.int 1, .int 1]) hq
      refine ⟨w1', q, _, _, rfl, rfl, eq _ _ upd_same, upd_same, by rw [List.length_map, List.length_replicate]; exact sz (by simp; omega), fun b hb => ?_⟩
      have hcat : (List.replicate k (0 : Int)).map V.int ++ [V.int 1, V.int 1] = (halfB k).map V.int := by
        unfold halfB
        rw [List.map_append]
        rfl
      rw [hcat]
      have eb := Ex.new (o := .lst ((halfB k).map V.int)) hb
      have e7 := (e6.trans eq).trans eb
      refine ⟨by show 1 ≤ sizeLine; decide, fun z2 hz2 => ?_⟩
      have e8 := e7.trans (Ex.new (o := .lst [.int 0]) hz2)
      have hb8 := (Ex.new (o := .lst [.int 0]) hz2) _ _ (upd_same (H := upd (upd (upd H5 z1 (.lst [.int 0])) w1' (.lst ((List.replicate k (0 : Int)).map V.int))) q (.lst [.int 1, .int 1])) (a := b) (o := .lst ((halfB k).map V.int)))
      refine ⟨_, rfl, D, _, rfl, .inl (SqL.of (e8 _ _ f6)), z2, _, [.int 0], rfl, rfl, upd_same, by rw [List.length_append]; omega, by rw [List.length_append]; omega, by show 1 * _ ≤ sizeLine; rw [Nat.one_mul, Int.toNat_natCast, List.length_append]; exact sz (by omega), fun w2' hw2 => ?_⟩
      have hrep2 : (List.replicate (((cs ++ ds).length : Nat) : Int).toNat [V.int 0]).flatten = ((List.replicate (halfCols (ptsOf vw true) (ptsOf vw false)).length (0 : Int)).map V.int) := by
        rw [Int.toNat_natCast, List.length_append, hcn]
        simp
      rw [hrep2]
      have e9' := Ex.new (o := .lst ((List.replicate (halfCols (ptsOf vw true) (ptsOf vw false)).length (0 : Int)).map V.int)) hw2
      have e9 := e8.trans e9'
      have hb9 := e9' _ _ hb8
      have hw9 := upd_same (H := upd (upd (upd (upd (upd H5 z1 (.lst [.int 0])) w1' (.lst ((List.replicate k (0 : Int)).map V.int))) q (.lst [.int 1, .int 1])) b (.lst ((halfB k).map V.int))) z2 (.lst [.int 0])) (a := w2') (o := .lst ((List.replicate (halfCols (ptsOf vw true) (ptsOf vw false)).length (0 : Int)).map V.int))
      generalize upd (upd (upd (upd (upd (upd H5 z1 (.lst [.int 0])) w1' (.lst ((List.replicate k (0 : Int)).map V.int))) q (.lst [.int 1, .int 1])) b (.lst ((halfB k).map V.int))) z2 (.lst [.int 0])) w2' (.lst ((List.replicate (halfCols (ptsOf vw true) (ptsOf vw false)).length (0 : Int)).map V.int)) = H6 at e9 hb9 hw9 ⊢
      have e06 := e5.trans e9
      have g3 := f3.mono tst_NP.sst e9
      have g4 := f4.mono tst_NP.sst e9
      have g1 := e9 _ _ f1
      have g2 := e9 _ _ f2
      refine ⟨D, b, w2', halfCols (ptsOf vw true) (ptsOf vw false), halfB k, fun i _ => halfB_nn k i, 60, rfl, f5.mono tst_P.sst e9, hb9, hw9, fun c hc => by rw [halfB_len, (hco c hc).1], by omega, by rw [halfB_len]; omega, by rw [halfB_len]; omega, lpB_of (fun c hc => (hco c hc).2) (halfB_ok k) (by rw [halfB_len]; omega) (by omega), by decide, fun β n hrun hG hneg t mk H7 e7 ht hmk => ?_, fun β n hrun hpos t nb ns sc H7 e7 ht hnb hnl => ?_⟩
      · have hfit : HP k (ptsOf vw true) (ptsOf vw false) := by
          obtain ⟨q1, q2⟩ := LP.none_says (P := lpOf (halfCols (ptsOf vw true) (ptsOf vw false)) (halfB k) fun i _ => halfB_nn k i) hG hneg
          have hm : (lpOf (halfCols (ptsOf vw true) (ptsOf vw false)) (halfB k) fun i _ => halfB_nn k i).m = k + 2 := halfB_len k
          rw [hm] at q1 q2
          exact half_none (fun p hp => (wpp true p hp).1) (fun p hp => (wpp false p hp).1) _ q1 q2
        refine ⟨_, rfl, t, _, 0, .str "none", rfl, rfl, SqT.of ht, atI_nat (j := 0) rfl, rfl, _, rfl, iteT ?_⟩
        refine ⟨_, rfl, t, _, 1, .ref mk, rfl, rfl, SqT.of ht, atI_nat (j := 1) rfl, ?_⟩
        have hlt : ((List.range (halfB k).length).map fun i => (lpOf (halfCols (ptsOf vw true) (ptsOf vw false)) (halfB k) fun i _ => halfB_nn k i).y β i).length = k + 2 := by rw [List.length_map, List.length_range, halfB_len]
        generalize ((List.range (halfB k).length).map fun i => (lpOf (halfCols (ptsOf vw true) (ptsOf vw false)) (halfB k) fun i _ => halfB_nn k i).y β i) = mks at hmk hlt
        refine ⟨_, rfl, _, rfl, (k : Int), rfl, mk, _, rfl, SqL.of hmk, fun s hs => ?_⟩
        rw [cut_take, ← List.map_take]
        have e10 := Ex.new (o := .lst ((mks.take k).map V.int)) hs
        have hs1 := upd_same (H := H7) (a := s) (o := HO.lst ((mks.take k).map V.int))
        generalize upd H7 s (.lst ((mks.take k).map V.int)) = H8 at e10 hs1 ⊢
        refine ⟨s, rfl, ⟨_, SqL.of hs1⟩, fun F hF => lc_data (mks.take k) (fun _ => true) IsI (fun x => -x) (Y := YAt ((mks.take k).map V.int)) (G := fun H => SqL K H s ((mks.take k).map V.int)) (by have z := walk_list (K := K) (a := s) (xs := (mks.take k).map V.int); rw [List.length_map] at z; exact z) tst_I (by rw [List.length_take]; omega) hF (fun H e => SqL.of (e _ _ hs1)) (fun i x H H' h => h.1 ▸ Ex.refl H) (fun i d x H H' hd e hy Ky2 Kn2 k3 k4 => ?_) (fun H9 e11 hL9 => ?_)⟩
        · obtain ⟨rfl, hx⟩ := hy
          rw [List.getElem?_map, hd] at hx
          obtain rfl := Option.some.inj hx
          exact ⟨rfl, _, rfl, d, rfl, k3 rfl _ _ (Ex.refl _) rfl⟩
        · rw [filter_all] at hL9
          refine .inl ⟨F, _, rfl, SqL.of (ls_I hL9), fun tq htq => ?_⟩
          have e12 := Ex.new (o := .tup (((mks.take k).map fun x => -x).map V.int)) htq
          have e7C := (e10.trans e11).trans e12
          refine ⟨_, rfl, _, rfl, mk, _, (k : Int), _, rfl, rfl, SqL.of (e7C _ _ hmk), at_L (by omega), by show 3 ≤ sizeLine; decide, fun ta hta => ⟨by show 2 ≤ sizeLine; decide, fun tb htb => ?_⟩⟩
          have e13 := ((e06.trans e7).trans e7C).trans (Ex.new (o := .tup [.str "half", .ref tq, .int (mks.getD k 0)]) hta)
          exact hQ tb _ (.ref ta) .non (Evl.fresh_back e13 htb) (e13.trans (Ex.new htb)) upd_same ⟨fun _ => hfit, fun _ h => nomatch h⟩
      · have hno : ¬ HP k (ptsOf vw true) (ptsOf vw false) := by
          obtain ⟨x, hx, q⟩ := LP.some_says (P := lpOf (halfCols (ptsOf vw true) (ptsOf vw false)) (halfB k) fun i _ => halfB_nn k i) hrun.good hpos
          have hm : (lpOf (halfCols (ptsOf vw true) (ptsOf vw false)) (halfB k) fun i _ => halfB_nn k i).m = k + 2 := halfB_len k
          rw [hm] at q
          exact half_point (fun p hp => (wpp true p hp).1) (fun p hp => (wpp false p hp).1) hrun.good.pos x hx q
        have e7' := e06.trans e7
        have g3 := g3.mono tst_NP.sst e7
        have g4 := g4.mono tst_NP.sst e7
        have g1 := e7 _ _ g1
        have g2 := e7 _ _ g2
        refine ⟨_, rfl, t, _, 0, .str "point", rfl, rfl, SqT.of ht, atI_nat (j := 0) rfl, rfl, _, rfl, iteF ?_⟩
        refine ⟨_, rfl, t, _, 1, .ref nb, rfl, rfl, SqT.of ht, atI_nat (j := 1) rfl, ?_⟩
        refine ⟨_, rfl, _, rfl, p, nb, _, _, rfl, SqL.of g1, SqL.of hnb, fun D2 hD2 => lc_data ((withLabel vw true).zip ns) (fun d => decide (0 < d.2)) IsII (fun d => (d.1.1, d.2)) (Y := YPair (fun i => ys[i]?) (fun i => (ns.map V.int)[i]?)) (G := fun H => SqL K H p ys ∧ SqL K H nb (ns.map V.int)) (walk_zip (by rw [List.length_zip, List.length_map, hyl])) tst_II (by rw [List.length_zip]; omega) hD2 (fun H e => ⟨SqL.of (e _ _ g1), SqL.of (e _ _ hnb)⟩) (fun i x H H' h => by obtain ⟨T1, y1, y2, _, hT, rfl, _⟩ := h; exact Ex.new hT) (fun j d z H9 H5 hd e5 hz Ky Kn k1 k2 => ?_) (fun H8 e10 hLs => ?_)⟩
        · obtain ⟨T1, y1, y2, rfl, hT, rfl, q1, q2⟩ := hz
          have q1 : ys[j]? = some y1 := q1
          have q2 : (ns.map V.int)[j]? = some y2 := q2
          obtain ⟨h1, h2⟩ := List.getElem?_zip_eq_some.mp hd
          rw [List.getElem?_map, h2] at q2
          obtain rfl := Option.some.inj q2
          obtain ⟨l', hl', hr2⟩ := paired_of g3 q1
          obtain rfl := Option.some.inj (hl'.symm.trans h1)
          have eT := Ex.new (o := .tup [y1, .int d.2]) hT
          obtain ⟨b2, y2, rfl, hb2, hy2⟩ := tst_NP _ _ _ _ (Ex.tex (e5.trans eT)) hr2
          refine ⟨T1, _, rfl, SqT.of upd_same, rfl, _, _, rfl, b2, _, rfl, SqT.of hb2, rfl, _, _, rfl, _, _, rfl, rfl, _, _, rfl, rfl, ?_⟩
          refine ⟨wipe3 (by decide) (by decide) (by decide), _, rfl, _, _, rfl, rfl, _, rfl, ?_⟩
          cases hg : decide (0 < d.2) with
          | true => exact iteT ⟨_, rfl, _, rfl, by show 2 ≤ sizeLine; decide, fun t ht => k1 hg _ _ (Ex.new ht) ⟨t, rfl, upd_same⟩⟩
          | false => exact iteF (k2 hg _ (Ex.refl _))
        · have g4 := g4.mono tst_NP.sst e10
          have g1 := e10 _ _ g1
          have g2 := e10 _ _ g2
          have hnb := e10 _ _ hnb
          refine ⟨_, rfl, _, rfl, _, rfl, p, _, rfl, .inl (SqL.of g1), _, rfl, nb, _, rfl, SqL.of hnb, fun s hs => ?_⟩
          rw [cut_drop, ← List.map_drop]
          have e11 := Ex.new (o := .lst ((ns.drop ys.length).map V.int)) hs
          have hs1 := upd_same (H := H8) (a := s) (o := HO.lst ((ns.drop ys.length).map V.int))
          generalize upd H8 s (.lst ((ns.drop ys.length).map V.int)) = H9 at e11 hs1 ⊢
          have g4 := g4.mono tst_NP.sst e11
          have g2 := e11 _ _ g2
          generalize ns.drop ys.length = ns2 at hs1 ⊢
          refine ⟨p2, s, _, _, rfl, SqL.of g2, SqL.of hs1, fun D3 hD3 => lc_data ((withLabel vw false).zip ns2) (fun d => decide (0 < d.2)) IsII (fun d => (d.1.1, d.2)) (Y := YPair (fun i => zs[i]?) (fun i => (ns2.map V.int)[i]?)) (G := fun H => SqL K H p2 zs ∧ SqL K H s (ns2.map V.int)) (walk_zip (by rw [List.length_zip, List.length_map, hzl])) tst_II (by rw [List.length_zip]; omega) hD3 (fun H e => ⟨SqL.of (e _ _ g2), SqL.of (e _ _ hs1)⟩) (fun i x H H' h => by obtain ⟨T1, y1, y2, _, hT, rfl, _⟩ := h; exact Ex.new hT) (fun j d z H9 H5 hd e5 hz Ky Kn k1 k2 => ?_) (fun H10 e12 hLs2 => ?_)⟩
          · obtain ⟨T1, y1, y2, rfl, hT, rfl, q1, q2⟩ := hz
            have q1 : zs[j]? = some y1 := q1
            have q2 : (ns2.map V.int)[j]? = some y2 := q2
            obtain ⟨h1, h2⟩ := List.getElem?_zip_eq_some.mp hd
            rw [List.getElem?_map, h2] at q2
            obtain rfl := Option.some.inj q2
            obtain ⟨l', hl', hr2⟩ := paired_of g4 q1
            obtain rfl := Option.some.inj (hl'.symm.trans h1)
            have eT := Ex.new (o := .tup [y1, .int d.2]) hT
            obtain ⟨b2, y2, rfl, hb2, hy2⟩ := tst_NP _ _ _ _ (Ex.tex (e5.trans eT)) hr2
            refine ⟨T1, _, rfl, SqT.of upd_same, rfl, _, _, rfl, b2, _, rfl, SqT.of hb2, rfl, _, _, rfl, _, _, rfl, rfl, _, _, rfl, rfl, ?_⟩
            refine ⟨wipe3 (by decide) (by decide) (by decide), _, rfl, _, _, rfl, rfl, _, rfl, ?_⟩
            cases hg : decide (0 < d.2) with
            | true => exact iteT ⟨_, rfl, _, rfl, by show 2 ≤ sizeLine; decide, fun t ht => k1 hg _ _ (Ex.new ht) ⟨t, rfl, upd_same⟩⟩
            | false => exact iteF (k2 hg _ (Ex.refl _))
          · refine ⟨_, rfl, _, rfl, by show 3 ≤ sizeLine; decide, fun ta hta => ⟨by show 2 ≤ sizeLine; decide, fun tb htb => ?_⟩⟩
            have e13 := (((e7'.trans e10).trans e11).trans e12).trans (Ex.new (o := .tup [.str "meet", .ref D2, .ref D3]) hta)
            exact hQ tb _ .non (.ref ta) (Evl.fresh_back e13 htb) (e13.trans (Ex.new htb)) upd_same ⟨fun h => absurd rfl h, fun h => absurd h hno⟩
end
end K49

namespace K49
open PySem PySem.Spec PyProof.Rows L2 NdefX ClX
/-- what the written part tells of an __init__ that says super: cc the cell of __class__, F.c its code, f2 the __init__ above -/
structure SupF (K : PySem.W.Frag) (mg : Str → Option Value) (P : Program) (C : Addr) (qual : Str) (st : Stmt) (f f2 : Addr) (F : NF) : Prop where
  nf : F.name = "__init__" ∧ F.qual = qual ∧ F.params = defArgs st ∧ F.body = defBody st ∧ F.scope = defScope st
  cl : ∃ cc cl cld csl, F.cl = [(("__class__" : Str), cc)] ∧ K.lookup cc = some ⟨cl, cld, .cell (some (.ref C)), csl⟩
  fn : ∃ (oc : Value) (od : Option Addr) (doc pm ct : Value) (osl : Array (Option Value)), K.lookup f = some ⟨oc, od, .func (F.fd doc pm ct), osl⟩
  cd : PySem.W.codeIn K (.ref F.c) F.qual = true
  file : ∃ ccl cdd vs ccs file tf, K.lookup F.c = some ⟨ccl, cdd, .fields vs, ccs⟩ ∧ vs[2]? = some (.str file tf) ∧ ((P.main.file : Str) == file) = true
  ocls : ∃ cd, PySem.W.clsIn K C = some cd
  sub : PySem.W.mroIn K C (.ref C) = some true
  third : PySem.W.nsIn K cStatics "thirdparty.any" = some none
  up : PySem.W.ks_superIn K C C "__init__" = some (some (.ref f2))
  ty : PySem.W.typeIn K (.ref f2) = some (.type "function")
  fi : PySem.W.fnIn K f2 = true
  sup : mg "super" = none
section
variable {P : Program} {w : World} {K : PySem.W.Frag} {mg : Str → Option Value} {base : Heap}
theorem fnR_of {k : Nat} {f : Addr} {fd : FuncData} {ps : List Str} {sp : Sp} {CX : CXT} (F : FnOk P w K mg base CX k f fd ps sp) (b : Binds K fd ps []) : FnR P w K mg base CX k f sp := by
  intro A outer s H us vs Q E hr e0 r h
  have KX : K.In s.heap := e0.mod.kin.keeps fun b o e => (e0.bs b o e).1
  have hl : us.length = ps.length := by rw [← r.length]; exact F.len _ _ _ _ h
  have hb := b s us KX (by simpa using hl)
  rw [List.append_nil] at hb
  exact F.run A outer s H ⟨us, []⟩ us vs Q E hr e0 hb r h
/-- the statement super().__init__(i) -/
theorem sup_stmt {N : List Str} {F : NF} {f f2 C : Addr} {qual : Str} {st : Stmt} {A : Around} {outer : List Env} {s0 s : Shared} {H0 H : Hp} {E : XK} {σ : L2.St} {k : Nat} {sp : Sp} {x dx : Addr} {fs : List (Str × V)} {D : Ends} {p0 p1 ap cp ep pos : Pos} {i : Int} {kd : Nat} {ar : Arg} {body : List Stmt}
    (S : SupF K mg P C qual st f f2 F) (Fn : FnR P w K mg base C8.CX0 k f2 sp) (hr : Room k (ncx C8.CX0 P w K mg base N F f A outer s0 H0 E).A)
    (hp : (F.params.posonlyargs ++ F.params.args).head? = some ar)
    (hks : F.scope.names.lookup ("super" : Str) = some .globalImplicit) (hkc : F.scope.names.lookup ("__class__" : Str) = some .free) (hka : F.scope.names.lookup ar.arg = some .local) (hkk : F.scope.kind = .function)
    (htop : (P.main.scope.names.lookup ("super" : Str)).isSome = false) (hN : N[0]? = some ar.arg)
    (hi : interactive (envF F f s0.heap.objs.size) = false) (hs : swapsWith (.Call (.Attribute (.Call (.Name "super" p0) [] [] p1) "__init__" ap) [.Constant (.int i) kd ep] [] cp) none pos.line (envF F f s0.heap.objs.size) = pure false)
    (pl : Sem Bool) (he : eval (.Call (.Attribute (.Call (.Name "super" p0) [] [] p1) "__init__" ap) [.Constant (.int i) kd ep] [] cp) (envF F f s0.heap.objs.size) = (do
      let ov ← attributeBase (.Call (.Name "super" p0) [] [] p1) "__init__" (envF F f s0.heap.objs.size) (eval (.Call (.Name "super" p0) [] [] p1) (envF F f s0.heap.objs.size))
      standAt ap.atName
      let (f', first) ← holding [ov] (getMethod ov "__init__" pl)
      callWith cp f' first (backTo cp (starEach [.Constant (.int i) kd ep] (envF F f s0.heap.objs.size))) []))
    (I : Inv (ncx C8.CX0 P w K mg base N F f A outer s0 H0 E) [] σ H s) (hσ : σ[0]? = some (some (.ref x))) (hx : H x = some (.ins C dx fs))
    (h : sp [.ref x, .int i] H (fun _ H' => D.nx σ H') E) :
    _root_.PySem.wpAt (model P w) (ncx C8.CX0 P w K mg base N F f A outer s0 H0 E).A (.func body (envF F f s0.heap.objs.size))
      (exec (.Expr (.Call (.Attribute (.Call (.Name "super" p0) [] [] p1) "__init__" ap) [.Constant (.int i) kd ep] [] cp) pos) (envF F f s0.heap.objs.size)) (SP (ncx C8.CX0 P w K mg base N F f A outer s0 H0 E) [] D) (ncx C8.CX0 P w K mg base N F f A outer s0 H0 E).xe s := by
  refine ks_wpAt_Expr_any ?_ hi hs
  refine ks_wpAt_MethodCall (pl := pl) ?_ he
  obtain ⟨cc, cl, cld, csl, hcl, hcc⟩ := S.cl
  obtain ⟨oc, od, doc, pm, ct, osl, hf⟩ := S.fn
  obtain ⟨ccl, cdd, vs, ccs, file, tf, hcode, hvs, hfile⟩ := S.file
  obtain ⟨cdC, hC⟩ := S.ocls
  obtain ⟨mA, O, rO, _, _, _⟩ := ins_get I.hok hx
  obtain ⟨odx, J, _⟩ := O.look
  have X : K.In s.heap := I.kIn
  obtain ⟨oD, hD1, hD2⟩ : ∃ oD, s.heap.get? C = some oD ∧ oD.data = .cls cdC := by
    unfold PySem.W.clsIn at hC
    split at hC
    · rename_i c d cd' sl ho
      cases hC
      exact ⟨_, X _ _ ho, rfl⟩
    · cases hC
  refine PySem.ks_wpAt_super_base (env := envF F f s0.heap.objs.size) hks hkc (by decide) rfl (X _ _ hf) rfl hp rfl (X _ _ hcode) rfl hvs hfile htop ?_
  obtain ⟨mb, hb1, hb2⟩ := I.mod.blt
  have bsup : bootBuiltins "super" = some (.type "super") := by kernel_rfl
  refine PySem.W.ks_loadName_global hkk hks (Calls.loadGlobal_builtin (env := envF F f s0.heap.objs.size) (mg := mg) (mb := mb) (I.mod.glob.keeps I.bk) S.sup (hb1.keeps I.bk) ((hb2 "super" (by decide)).trans bsup) ⟨rfl, ?_⟩)
  refine wpAny_loadName_free hkk hkc (c := cc) (v := .ref C) (by show List.lookup _ F.cl = _; rw [hcl]; rfl) ⟨_, X _ _ hcc, rfl⟩ ?_
  obtain ⟨m, hns, hlk⟩ := I.loc
  obtain ⟨u, ru, lu⟩ := hlk 0 ar.arg (.ref x) hN hσ (.inl hka)
  obtain rfl : u = Value.ref x := ru
  have hmx : m ar.arg = some (.ref x) := by
    rcases lu with ⟨_, z⟩ | ⟨z, _⟩
    · exact z
    · have z : F.scope.names.lookup ar.arg = some .cell ∨ F.scope.names.lookup ar.arg = some .free := z
      rw [hka] at z
      rcases z with z | z <;> cases z
  refine wpAny_loadName_local hkk hka hns hmx ?_
  refine ks_wpAny_isType_cls hD1 hD2 ⟨rfl, ?_⟩
  refine ks_wpAny_call_super hD1 hD2 J.at_ J.cls (fun c e => ?_) (PySem.W.looks_mroIn X S.sub) (fun h' e kp => ?_)
  · have := J.no
    unfold PySem.W.notCls at this
    rw [e] at this
    exact Bool.noConfusion this
  obtain ⟨hh, g, d, t, os⟩ := s
  have I1 := pin_new (t' := t) I (h' := h') kp (Nat.le_refl _) e (fun v z => nomatch z)
  have X1 : K.In h' := I1.kIn
  obtain ⟨of, hof, hofc⟩ : ∃ of, h'.get? f2 = some of ∧ of.cls = .type "function" := by
    have ht' : (K.lookup f2).map (·.cls) = some (.type "function") := S.ty
    cases z : K.lookup f2 with
    | none => rw [z] at ht'; cases ht'
    | some of => rw [z] at ht'; exact ⟨of, X1 _ _ z, Option.some.inj ht'⟩
  have hm := S.up
  unfold PySem.W.ks_superIn at hm
  rw [hC] at hm
  have J1 : PySem.W.InstAt hh x (PySem.W.instObj C dx) C (some odx) := J
  refine PySem.ks_wpAny_getMethod_super e (PySem.W.looks_opaque X1 S.third) (l₀ := cdC.mro) ?_ rfl X1 hm hof hofc (PySem.W.ks_ne X J1 hC) (by decide) ?_
  · exact fun A Q E s k q => wpAny_bind ((PySem.W.looks_clsIn X1 hC) A _ E s k (wpAny_pure q))
  have I2 := met_new (g := f2) (C := x) I1
  have hb : base.get? h'.objs.size = none := base_none I1 (Nat.le_refl _)
  refine callwith_cm I2 hb S.fi ?_ rfl rfl
  have pa : PA (ncx C8.CX0 P w K mg base N F f A outer s0 H0 E) [.Constant (.int i) kd ep] (tCons (tC (V.int i)) tNil) := pa_cons pe_int pa_nil
  refine thn (pa.run cp _ _ σ H (fun vs H' => vs = [.int i] ∧ H' = H) I2 ⟨rfl, rfl⟩) fun us s3 z => ?_
  obtain ⟨vs, H3, I3, r, rfl, rfl⟩ := z
  refine ⟨⟨pin_at I3, I3.kIn⟩, ?_⟩
  refine thn (run_cm (E := E) (Q := fun _ H' => D.nx σ H') Fn hr pass0 I3 r h) fun v s' z => ?_
  obtain ⟨v', H', I', _, q⟩ := z
  exact ⟨σ, H', unpin I', q⟩
end
end K49

namespace K49
open PySem PySem.Spec PyProof.Rows L2
open C8 (Cal Met Mak pe_c pe_mk pe_mt pe_mt0 pe_gc)
open Evl (Ex)
def FitsC : Kd → Rows → Prop
  | .halves p, rows => HalfFits p rows
  | .boxes p, rows => boxFits p (viewOf rows) = true
  | .rising _, rows => riseFits (viewOf rows) = true
  | .flats _, rows => flatFits (viewOf rows) = true
  | .turns m, rows => turnFits m (viewOf rows) = true
def AskC (κ : Kd) (rows : Rows) : Prop := rows.length ≤ 5 ∧ 1 ≤ κ.places ∧ κ.places ≤ 3 ∧ (∀ d ∈ rows, d.1.length = κ.places ∧ RowB 7 d.1) ∧ ∀ m, κ = .turns m → m ≤ 6
theorem withLabel_view (rows : Rows) (b : Bool) : (withLabel (viewOf rows) b).map (fun d => d.2) = (rows.filter fun d => d.2 = b).map fun d => d.1 := by
  unfold viewOf withLabel
  have key : ∀ (rows : Rows) (n : Nat), ((((rows.zipIdx n).map fun d => ((d.2 : Int), d.1.1, d.1.2)).filter fun d => decide (d.2.2 = b)).map fun d => (d.1, d.2.1)).map (fun d => d.2) = (rows.filter fun d => decide (d.2 = b)).map fun d => d.1 := by
    intro rows
    induction rows with
    | nil => intro n; rfl
    | cons d r ih =>
      intro n
      rw [List.zipIdx_cons, List.map_cons, List.filter_cons, List.filter_cons]
      by_cases h : d.2 = b
      · rw [if_pos (by simpa using h), if_pos (by simpa using h), List.map_cons, List.map_cons, List.map_cons, ih]
      · rw [if_neg (by simpa using h), if_neg (by simpa using h), ih]
  exact key rows 0
theorem viewOf_len (rows : Rows) : (viewOf rows).length = rows.length := by simp [viewOf]
theorem viewOf_mem {rows : Rows} {d : Int × List Int × Bool} (h : d ∈ viewOf rows) : (d.2.1, d.2.2) ∈ rows := by
  obtain ⟨x, hx, rfl⟩ := List.mem_map.mp h
  have := (List.mem_zipIdx' hx)
  rw [this.2]
  exact List.getElem_mem _
/-- an instance that has its places alone -/
def spKindInit (C : Addr) : Sp := fun vs H Q _ => ∃ (x dx : Addr) (k : Int), vs = [.ref x, .int k] ∧ H x = some (.ins C dx []) ∧ 1 ≤ k ∧ k ≤ 3 ∧ ∀ H', (∀ b o, H b = some o → b ≠ x → H' b = some o) → H' x = some (.ins C dx [("places", .int k)]) → Q .non H'
def spTurnsInit (C : Addr) : Sp := fun vs H Q _ => ∃ (x dx : Addr) (m : Int), vs = [.ref x, .int m] ∧ H x = some (.ins C dx []) ∧ 0 ≤ m ∧ m ≤ 6 ∧ ∀ H', (∀ b o, H b = some o → b ≠ x → H' b = some o) → H' x = some (.ins C dx [("places", .int 1), ("most", .int m)]) → Q .non H'
section
variable {P : Program} {w : World} {K : PySem.W.Frag} {mg : Str → Option Value} {base : Heap}
theorem sc_Kind_init : FnScope ["self", "places"] ["self", "places"] (defScope s_Kind_init) := C8.fnScope_by (by decide +kernel)
theorem fn_Kind_init {C f : Addr} {fd : FuncData} {dvs : List V} {kws : List (Str × V)} (T : Txt mg) (F : FunD K "__init__" "Kind.__init__" (defArgs s_Kind_init) (defBody s_Kind_init) (defScope s_Kind_init) dvs kws f fd) (cl : Cls K C) (nP : NoAttr K C "places")
    (C_check_places : Cal P w K mg base 2 "check_places" spPlaces []) : FnOk P w K mg base C8.CX0 3 f fd ["self", "places"] (spKindInit C) := by
  have nd := sc_Kind_init.nd
  refine F.ok sc_Kind_init (fun vs H Q E h => by obtain ⟨x, dx, k, rfl, hx, h1, h2, hQ⟩ := h; rfl) (fun cdv A outer s H vs Q E hr h => ?_)
  obtain ⟨x, dx, k, rfl, hx, h1, h2, hQ⟩ := h
  refine ⟨_, PSs.nox (pss_cons (ps_expr (pe_c C_check_places hr (by decide) rfl (pa_cons (pv 1) pa_nil)))
      (pss_one (kps_fld K (pv 0) (pv 1) rfl))), ?_⟩
  refine ⟨_, rfl, k, rfl, h1, h2, ?_⟩
  refine ⟨_, rfl, _, rfl, x, C, dx, _, rfl, hx, cl, nP, (by show 0 < 1000; decide), ?_⟩
  exact hQ _ (fun b o hb hn => by rw [upd_ne hn]; exact hb) upd_same
theorem mak_Kind_init {x : Str} {C : Addr} (T : Txt mg) (D : Mkr K mg x C "Kind.__init__" s_Kind_init ["self", "places"]) (nP : NoAttr K C "places") (C_check_places : Cal P w K mg base 2 "check_places" spPlaces []) :
    Mak P w K mg base 3 x C (spKindInit C) [] := by
  obtain ⟨f, fd, dvs, kws, F, hm, b⟩ := D.ex
  exact ⟨f, fd, _, [], hm, fn_Kind_init T F D.cl nP C_check_places, D.nm, b, .nil⟩
theorem nsc_Turns_init : NdefX.NScope ["self", "most", "__class__"] ["self", "most"] ["__class__"] (defScope s_Turns_init) := NdefX.nscope_by (by decide +kernel)
def bT (i : Nat) : Stmt := (defBody s_Turns_init).getD i (.Pass ⟨0, 0, 0, 0⟩)
theorem body_Turns3 : defBody s_Turns_init = [bT 0, bT 1, bT 2] := by kernel_rfl
theorem ps_nox {X : Cx} {st : Stmt} {t : TS} (h : PS X.nox st t) : PS X st t := ⟨fun pins s σ H D I hw => by
  exact wpAny_mono (h.run pins s σ H D (I.wish _) hw) (fun _ _ q => q.unwish) fun _ _ x => False.elim x⟩
/-- Turns.__init__ as a function that captured its class -/
abbrev NFt (cl : List (Str × Addr)) (c : Addr) : NdefX.NF := ⟨"__init__", "Turns.__init__", defArgs s_Turns_init, defBody s_Turns_init, defScope s_Turns_init, cl, c⟩
theorem fn_Turns_init {C f f2 : Addr} {cl0 : List (Str × Addr)} {c0 : Addr} {doc pm ct oc : Value} {od : Option Addr} {osl : Array (Option Value)} (T : Txt mg) (S : SupF K mg P C "Turns.__init__" s_Turns_init f f2 (NFt cl0 c0)) (lk : K.lookup f = some ⟨oc, od, .func ((NFt cl0 c0).fd doc pm ct), osl⟩) (cl : Cls K C) (nP : NoAttr K C "places") (nM : NoAttr K C "most")
    (Fn : FnR P w K mg base C8.CX0 3 f2 (spKindInit C)) (C_is_integer : Cal P w K mg base 1 "is_integer" spInteger []) (htop : (P.main.scope.names.lookup ("super" : Str)).isSome = false) : FnOk P w K mg base C8.CX0 4 f ((NFt cl0 c0).fd doc pm ct) ["self", "most"] (spTurnsInit C) := by
  refine ⟨fun vs H Q E h => by obtain ⟨x, dx, m, rfl, hx, h1, h2, hQ⟩ := h; rfl, fun A outer s H args us vs Q E hr e0 hb r hsp => ?_⟩
  have NS := nsc_Turns_init
  have nd := NS.nd
  have KX : K.In s.heap := e0.mod.kin.keeps fun b o e => (e0.bs b o e).1
  have lim : s.heap.NoLimit := e0.mod.nolimit.keeps fun b o e => (e0.bs b o e).1
  obtain ⟨cc, cl', cld, csl, hcl, hcc⟩ := S.cl
  have hcl : cl0 = [(("__class__" : Str), cc)] := hcl
  have Cc : NdefX.CellsAt (NFt cl0 c0).cl ["__class__"] [none] s.heap H := by
    refine ⟨rfl, fun y c e => ?_, fun y z c e1 e2 => ?_, fun i y hi => ?_⟩
    · have e : cl0.lookup y = some c := e
      rw [hcl] at e
      have e := PySem.mem_of_lookup e
      simp at e
      rw [e.2]
      exact ⟨(e0.bs _ _ (e0.mod.kin _ _ hcc)).2, _, _, KX _ _ hcc, rfl⟩
    · have e1 : cl0.lookup y = some c := e1
      have e2 : cl0.lookup z = some c := e2
      rw [hcl] at e1 e2
      have e1 := PySem.mem_of_lookup e1
      have e2 := PySem.mem_of_lookup e2
      simp at e1 e2
      rw [e1.1, e2.1]
    · refine ⟨cc, ?_, fun v hv => ?_⟩
      · have : i = 0 := by
          have := (List.getElem?_eq_some_iff.mp hi).1
          simpa using this
        subst this
        obtain rfl := Option.some.inj hi
        show cl0.lookup _ = _
        rw [hcl]
        rfl
      · match i, hv with
        | 0, hv => cases hv
        | i + 1, hv => simp at hv
  refine codeAny_call_function hr.depth (KX _ _ lk) rfl NS.co NS.gen rfl (PySem.W.codeRec_of KX S.cd) (hb _ _ _ _ ?_)
  refine wpAny_newFunctionEnv NS.nocell (fun ⟨n, _⟩ hy => NS.par n (List.of_mem_zip hy).1) (fun h₁ hns hsb => ⟨lim.fresh _ hsb, ?_⟩) NS.kind
  show codeAny _ _ (.func (defBody s_Turns_init) (NdefX.envF (NFt cl0 c0) f s.heap.objs.size)) _ _
  have kp : ∀ b o, s.heap.get? b = some o → h₁.get? b = some o := fun b o e => hsb.extBut b o (Nat.ne_of_lt (Heap.lt_size e)) (Heap.get?_push_of_some _ e)
  obtain ⟨x, dx, m, rfl, hx, h1, h2, hQ⟩ := hsp
  have I : Inv (NdefX.ncx C8.CX0 P w K mg base ["self", "most", "__class__"] (NFt cl0 c0) f A outer s H E) [] [some (.ref x), some (.int m), none] H { s with heap := h₁, toks := s.toks + ((["self", "most"] : List Str).zip us).length } := NdefX.inv_startN NS hr.hd e0 rfl r Cc hns kp
  rw [body_Turns3]
  obtain ⟨ar, har, han⟩ : ∃ ar : Arg, ((defArgs s_Turns_init).posonlyargs ++ (defArgs s_Turns_init).args).head? = some ar ∧ ar.arg = "self" := ⟨_, rfl, rfl⟩
  have hr3 : Room 3 (NdefX.ncx C8.CX0 P w K mg base ["self", "most", "__class__"] (NFt cl0 c0) f A outer s H E).A := hr.deeper _
  generalize hX : NdefX.ncx C8.CX0 P w K mg base ["self", "most", "__class__"] (NFt cl0 c0) f A outer s H E = X at I hr3
  have ps1 : ∃ t, PS X (bT 0) t ∧ ∀ (H' : Hp) (D : Ends), D.nx [some (.ref x), some (.int m), none] H' → t D [some (.ref x), some (.int m), none] H' := by
    subst hX
    refine ⟨_, ps_nox (ps_if (PW.pt (pw_or (pt_not (pt_val (pe_c C_is_integer hr3 (by decide) rfl (pa_cons (pv 1) pa_nil)))) (pw_or1 (pt_not (pt_chain op_le op_le pe_int (pv 1) (pe_gc rfl T.MOST_TURNS)))))) pss_never pss_nil), fun H' D hD => ?_⟩
    refine ⟨_, rfl, m, rfl, true, rfl, iteF ?_⟩
    exact ⟨_, rfl, _, _, rfl, rfl, true, congrArg V.bl (decide_eq_true h1), iteT ⟨_, _, rfl, rfl, true, congrArg V.bl (decide_eq_true h2), iteF hD⟩⟩
  have ps3 : ∃ t, PS X (bT 2) t ∧ ∀ (H' : Hp) (D : Ends), H' x = some (.ins C dx [("places", .int 1)]) → D.nx [some (.ref x), some (.int m), none] (upd H' x (.ins C dx [("places", .int 1), ("most", .int m)])) → t D [some (.ref x), some (.int m), none] H' := by
    subst hX
    refine ⟨_, ps_nox (kps_fld K (pv 0) (pv 1) rfl), fun H' D hx' hD => ?_⟩
    exact ⟨_, rfl, _, rfl, x, C, dx, _, rfl, hx', cl, nM, (by show 1 < 1000; decide), hD⟩
  obtain ⟨t1, ps1, w1⟩ := ps1
  obtain ⟨t3, ps3, w3⟩ := ps3
  subst hX
  refine ks_codeAny_funcAt ?_
  refine ks_wpAt_execs_cons (ks_wpAt_mono (_root_.PySem.wpAt_of_wpAny (ps1.run [] _ _ H { nx := fun σ' H' => σ' = [some (.ref x), some (.int m), none] ∧ H' = H, rt := fun _ _ => False } I (w1 H _ ⟨rfl, rfl⟩))) (fun fl s1 hs => ?_) fun _ _ z => z)
  cases fl with
  | ret u => obtain ⟨_, _, _, _, _, z⟩ := hs; exact z.elim
  | brk => obtain ⟨_, _, _, z⟩ := hs; exact z.elim
  | cont => obtain ⟨_, _, _, z⟩ := hs; exact z.elim
  | next =>
    obtain ⟨σ1, H1, I1, rfl, rfl⟩ := hs
    refine ks_wpAt_execs_cons (ks_wpAt_mono (sup_stmt (D := { nx := fun σ' H' => σ' = [some (.ref x), some (.int m), none] ∧ (∀ b o, H1 b = some o → b ≠ x → H' b = some o) ∧ H' x = some (.ins C dx [("places", .int 1)]), rt := fun _ _ => False }) S Fn hr3 har rfl rfl (by rw [han]; rfl) rfl htop (by rw [han]; rfl) rfl rfl _ rfl I1 rfl hx ⟨x, dx, 1, rfl, hx, by decide, by decide, fun H' k hx' => ⟨rfl, k, hx'⟩⟩) (fun fl s2 hs => ?_) fun _ _ z => z)
    cases fl with
    | ret u => obtain ⟨_, _, _, _, _, z⟩ := hs; exact z.elim
    | brk => obtain ⟨_, _, _, z⟩ := hs; exact z.elim
    | cont => obtain ⟨_, _, _, z⟩ := hs; exact z.elim
    | next =>
      obtain ⟨σ2, H2, I2, rfl, k2, hx2⟩ := hs
      refine ks_wpAt_execs_cons (ks_wpAt_mono (_root_.PySem.wpAt_of_wpAny (ps3.run [] _ _ H2 { nx := fun _ H' => H' = upd H2 x (.ins C dx [("places", .int 1), ("most", .int m)]), rt := fun _ _ => False } I2 (w3 H2 _ hx2 rfl))) (fun fl s3 hs => ?_) fun _ _ z => z)
      cases fl with
      | ret u => obtain ⟨_, _, _, _, _, z⟩ := hs; exact z.elim
      | brk => obtain ⟨_, _, _, z⟩ := hs; exact z.elim
      | cont => obtain ⟨_, _, _, z⟩ := hs; exact z.elim
      | next =>
        obtain ⟨σ3, H3, I3, rfl⟩ := hs
        show _root_.PySem.wpAt _ _ _ (execs [] _) _ _ _
        refine _root_.PySem.wpAt_of_wpAny (wpAny_execs_nil ?_)
        refine ⟨V.non, _, I3.os, I3.bare, I3.base, I3.hok, rfl, hQ _ (fun b o hb hn => ?_) upd_same⟩
        rw [upd_ne hn]
        exact k2 b o hb hn
theorem sc_Halves_judge : FnScope ["self", "view"] ["self", "view"] (defScope s_Halves_judge) := C8.fnScope_by (by decide +kernel)
theorem met_Halves_judge {C : Addr} (T : Txt mg) (D : Mth K C "judge" "Halves.judge" s_Halves_judge ["self", "view"] [])
    {c : Cls5} {p : Nat} (c5 : C5Ok K c) (hC : C = c.halves) (C_judge_half : Cal P w K mg base 5 "judge_half" spJudgeHalf []) : Met P w K mg base (6) C "judge" (spJudge c (.halves p) AskC FitsC) [] := by
  have nd := sc_Halves_judge.nd
  refine D.met sc_Halves_judge (fun vs H Q E h => by obtain ⟨k, v, rows, rfl, hk, hL, hn, hask, hQ⟩ := h; rfl) (fun f cdv A outer s H vs Q E hr h => ?_)
  obtain ⟨k, v, rows, rfl, hk, hL, hn, hask, hQ⟩ := h
  refine ⟨_, (pss_one (ps_ret (pe_c C_judge_half hr (by decide) rfl (pa_cons (kpe_fld K (pv 0) rfl) (pa_cons (pv 1) pa_nil))))), ?_⟩
  subst hC
  obtain ⟨dx, fs, h1, h2, h3, h4⟩ := id hk
  obtain ⟨a1, a2, a3, a4, a5⟩ := hask
  refine ⟨_, rfl, k, c.halves, dx, fs, _, rfl, h1, c5.cl (.halves p), c5.np (.halves p), h2, _, rfl, p, v, viewOf rows, rfl, a2, a3, hL, by rw [viewOf_len]; omega, fun d hd => a4 _ (viewOf_mem hd), fun t H' x y ht e he hf => hQ t H' x y ht e he (hf.trans ?_)⟩
  show HP p _ _ ↔ HalfFits p rows
  rw [hp_rows]
  unfold ptsOf
  rw [withLabel_view, withLabel_view]
theorem sc_Boxes_judge : FnScope ["self", "view"] ["self", "view"] (defScope s_Boxes_judge) := C8.fnScope_by (by decide +kernel)
theorem met_Boxes_judge {C : Addr} (T : Txt mg) (D : Mth K C "judge" "Boxes.judge" s_Boxes_judge ["self", "view"] [])
    {c : Cls5} {p : Nat} (c5 : C5Ok K c) (hC : C = c.boxes) (C_judge_box : Cal P w K mg base 2 "judge_box" spJudgeBox []) : Met P w K mg base (6) C "judge" (spJudge c (.boxes p) AskC FitsC) [] := by
  have nd := sc_Boxes_judge.nd
  refine D.met sc_Boxes_judge (fun vs H Q E h => by obtain ⟨k, v, rows, rfl, hk, hL, hn, hask, hQ⟩ := h; rfl) (fun f cdv A outer s H vs Q E hr h => ?_)
  obtain ⟨k, v, rows, rfl, hk, hL, hn, hask, hQ⟩ := h
  refine ⟨_, (pss_one (ps_ret (pe_c C_judge_box hr (by decide) rfl (pa_cons (kpe_fld K (pv 0) rfl) (pa_cons (pv 1) pa_nil))))), ?_⟩
  subst hC
  obtain ⟨dx, fs, h1, h2, h3, h4⟩ := id hk
  obtain ⟨a1, a2, a3, a4, a5⟩ := hask
  have a3' : p ≤ 3 := a3
  exact ⟨_, rfl, k, c.boxes, dx, fs, _, rfl, h1, c5.cl (.boxes p), c5.np (.boxes p), h2, _, rfl, p, v, viewOf rows, rfl, a2, by omega, hL, by rw [viewOf_len]; omega, fun d hd => (a4 _ (viewOf_mem hd)).1, fun t H' x y ht e he hf => hQ t H' x y ht e he hf⟩
theorem sc_Rising_judge : FnScope ["self", "view"] ["self", "view"] (defScope s_Rising_judge) := C8.fnScope_by (by decide +kernel)
theorem met_Rising_judge {C : Addr} (T : Txt mg) (D : Mth K C "judge" "Rising.judge" s_Rising_judge ["self", "view"] [])
    {c : Cls5} {p : Nat} (c5 : C5Ok K c) (hC : C = c.rising) (C_judge_rise : Cal P w K mg base 2 "judge_rise" spJudgeRise []) : Met P w K mg base (6) C "judge" (spJudge c (.rising p) AskC FitsC) [] := by
  have nd := sc_Rising_judge.nd
  refine D.met sc_Rising_judge (fun vs H Q E h => by obtain ⟨k, v, rows, rfl, hk, hL, hn, hask, hQ⟩ := h; rfl) (fun f cdv A outer s H vs Q E hr h => ?_)
  obtain ⟨k, v, rows, rfl, hk, hL, hn, hask, hQ⟩ := h
  refine ⟨_, (pss_one (ps_ret (pe_c C_judge_rise hr (by decide) rfl (pa_cons (pv 1) pa_nil)))), ?_⟩
  subst hC
  obtain ⟨a1, a2, a3, a4, a5⟩ := hask
  have a3' : p ≤ 3 := a3
  exact ⟨_, rfl, v, viewOf rows, rfl, hL, by rw [viewOf_len]; omega, fun d hd => by have : d.2.1.length = p := (a4 _ (viewOf_mem hd)).1; omega, fun t H' x y ht e he hf => hQ t H' x y ht e he hf⟩
theorem sc_Flats_judge : FnScope ["self", "view"] ["self", "view"] (defScope s_Flats_judge) := C8.fnScope_by (by decide +kernel)
theorem met_Flats_judge {C : Addr} (T : Txt mg) (D : Mth K C "judge" "Flats.judge" s_Flats_judge ["self", "view"] [])
    {c : Cls5} {p : Nat} (c5 : C5Ok K c) (hC : C = c.flats) (C_judge_flat : Cal P w K mg base 4 "judge_flat" spJudgeFlat []) : Met P w K mg base (6) C "judge" (spJudge c (.flats p) AskC FitsC) [] := by
  have nd := sc_Flats_judge.nd
  refine D.met sc_Flats_judge (fun vs H Q E h => by obtain ⟨k, v, rows, rfl, hk, hL, hn, hask, hQ⟩ := h; rfl) (fun f cdv A outer s H vs Q E hr h => ?_)
  obtain ⟨k, v, rows, rfl, hk, hL, hn, hask, hQ⟩ := h
  refine ⟨_, (pss_one (ps_ret (pe_c C_judge_flat hr (by decide) rfl (pa_cons (pv 1) pa_nil)))), ?_⟩
  subst hC
  obtain ⟨a1, a2, a3, a4, a5⟩ := hask
  refine ⟨_, rfl, p, v, viewOf rows, rfl, a3, hL, by rw [viewOf_len]; omega, fun hne => ?_, fun d hd => a4 _ (viewOf_mem hd), fun t H' x y ht e he hf => hQ t H' x y ht e he hf⟩
  have h1 : (withLabel (viewOf rows) true).length + (withLabel (viewOf rows) false).length = rows.length := by
    unfold withLabel
    rw [List.length_map, List.length_map, ← viewOf_len rows]
    generalize viewOf rows = vw
    induction vw with
    | nil => rfl
    | cons d r ih =>
      rw [List.filter_cons, List.filter_cons]
      cases h : d.2.2 with
      | true =>
        rw [if_pos (by simp [h]), if_neg (by simp [h]), List.length_cons, List.length_cons]
        omega
      | false =>
        rw [if_neg (by simp [h]), if_pos (by simp [h]), List.length_cons, List.length_cons]
        omega
  have h2 := List.length_pos_iff.mpr hne
  omega
theorem sc_Turns_judge : FnScope ["self", "view"] ["self", "view"] (defScope s_Turns_judge) := C8.fnScope_by (by decide +kernel)
theorem met_Turns_judge {C : Addr} (T : Txt mg) (D : Mth K C "judge" "Turns.judge" s_Turns_judge ["self", "view"] [])
    {c : Cls5} {m : Nat} (c5 : C5Ok K c) (hC : C = c.turns) (C_judge_turns : Cal P w K mg base 2 "judge_turns" spJudgeTurns []) : Met P w K mg base (6) C "judge" (spJudge c (.turns m) AskC FitsC) [] := by
  have nd := sc_Turns_judge.nd
  refine D.met sc_Turns_judge (fun vs H Q E h => by obtain ⟨k, v, rows, rfl, hk, hL, hn, hask, hQ⟩ := h; rfl) (fun f cdv A outer s H vs Q E hr h => ?_)
  obtain ⟨k, v, rows, rfl, hk, hL, hn, hask, hQ⟩ := h
  refine ⟨_, (pss_one (ps_ret (pe_c C_judge_turns hr (by decide) rfl (pa_cons (kpe_fld K (pv 0) rfl) (pa_cons (pv 1) pa_nil))))), ?_⟩
  subst hC
  obtain ⟨dx, fs, h1, h2, h3, h4⟩ := id hk
  obtain ⟨a1, a2, a3, a4, a5⟩ := hask
  have a5' := a5 m rfl
  exact ⟨_, rfl, k, c.turns, dx, fs, _, rfl, h1, c5.cl (.turns m), c5.nm, h3, _, rfl, m, v, viewOf rows, rfl, by omega, hL, by rw [viewOf_len]; omega, fun d hd e => by have z := (a4 _ (viewOf_mem hd)).1; rw [e] at z; exact absurd z (by show ¬ (0 = 1); decide), fun t H' x y ht e he hf => hQ t H' x y ht e he hf⟩
end
end K49

namespace K49
open PySem PySem.Spec PyProof.Rows L2
open C8 (Cal Met Mak pe_c pe_mk pe_mt pe_mt0 pe_gc)
open Evl (Ex)
/-- draws stand at d: so many were drawn at most -/
def Drw (H : Hp) (d : Addr) (n : Nat) : Prop := ∃ a b c : Int, H d = some (.lst [.int a, .int b, .int c]) ∧ 0 ≤ b ∧ b < 2 ^ 40 ∧ 0 ≤ c ∧ c ≤ n
theorem Drw.mono {H : Hp} {d : Addr} {n m : Nat} (h : Drw H d n) (e : n ≤ m) : Drw H d m := by
  obtain ⟨a, b, c, h1, h2, h3, h4, h5⟩ := h
  exact ⟨a, b, c, h1, h2, h3, h4, by omega⟩
theorem Drw.ex {H H' : Hp} {d : Addr} {n : Nat} (h : Drw H d n) (e : Ex H H') : Drw H' d n := by
  obtain ⟨a, b, c, h1, h2⟩ := h
  exact ⟨a, b, c, e _ _ h1, h2⟩
theorem ExD.new {d p : Addr} {H H' : Hp} {o : HO} (e : ExD d H H') (h : H p = none) : ExD d H (upd H' p o) := fun b u q m => by
  rw [upd_ne (ne_of_none q h)]
  exact e b u q m
theorem ExD.tex {d : Addr} {H H' : Hp} {xs : List V} (e : ExD d H H') (h : H d = some (.lst xs)) : TEx H H' := fun a ys q => e a _ q (ne_of q h (by intro z; cases z))
def spSource (K : PySem.W.Frag) : Sp := fun vs H Q _ => ∃ (a : Addr) (ns : List Int) (i : Nat), vs = [.ref a, .int i] ∧ SqL K H a (ns.map V.int) ∧ i ≤ 10 ∧ ∀ d H', H d = none → Ex H H' → Drw H' d 0 → Q (.ref d) H'
def spDraw : Sp := fun vs H Q _ => ∃ (d : Addr) (m : Int) (n : Nat), vs = [.ref d, .int m] ∧ 1 ≤ m ∧ m ≤ 1000 ∧ Drw H d n ∧ n ≤ 1000 ∧ ∀ (r : Int) H', 0 ≤ r → r < m → ExD d H H' → Drw H' d (n + 1) → Q (.int r) H'
def spMixed (K : PySem.W.Frag) : Sp := fun vs H Q _ => ∃ (d a : Addr) (xs : List V) (n : Nat), vs = [.ref d, .ref a] ∧ H a = some (.lst xs) ∧ a ≠ d ∧ xs.length ≤ 20 ∧ Drw H d n ∧ n + xs.length ≤ 1000 ∧
  ∀ p ys H', H p = none → ExD d H H' → H' p = some (.lst ys) → ys.Perm xs → Drw H' d (n + xs.length) → Q (.ref p) H'
theorem emod_lt' {a m : Int} (h : 1 ≤ m) : 0 ≤ a % m ∧ a % m < m := ⟨Int.emod_nonneg _ (by omega), Int.emod_lt_of_pos _ (by omega)⟩
section
variable {P : Program} {w : World} {K : PySem.W.Frag} {mg : Str → Option Value} {base : Heap}
theorem sc_law_draw : FnScope ["_law_draws", "_law_many", "_law_seed", "_law_digit"] ["_law_draws", "_law_many"] (defScope s_law_draw) := C8.fnScope_by (by decide +kernel)
theorem cal_law_draw (T : Txt mg) (D : Dfn K mg "_law_draw" s_law_draw ["_law_draws", "_law_many"] []) : Cal P w K mg base (1) "_law_draw" (spDraw) [] := by
  have nd := sc_law_draw.nd
  refine D.cal sc_law_draw (fun vs H Q E h => by obtain ⟨d, m, n, rfl, hm1, hm2, ⟨a, b, c, hd, hb1, hb2, hc1, hc2⟩, hn, hQ⟩ := h; rfl) (fun f cdv A outer s H vs Q E hr h => ?_)
  obtain ⟨d, m, n, rfl, hm1, hm2, ⟨a, b, c, hd, hb1, hb2, hc1, hc2⟩, hn, hQ⟩ := h
  refine ⟨_, (pss_cons (ps_if (pt_cmpR op_gt (pe_ix (kix_list K) (pv 0) pe_int (fun _ _ => rfl)) pe_int (nomark _)) (pss_cons (ps_set (i := 3) nd rfl (Or.inl rfl) (pe_op op_mod (pe_callTy call_int1 rfl T.b_int (by decide +kernel) (pa_cons (pe_ix (kix_list K) (pv 0) pe_int (fun _ _ => rfl)) pa_nil)) (pv 1)))
      (pss_cons (ps_asg (pe_op op_fdiv (pe_ix (kix_list K) (pv 0) pe_int (fun _ _ => rfl)) (pv 1)) (pg_sub (pv 0) pe_int set_list))
      (pss_one (ps_ret (pv 3))))) pss_nil)
      (pss_cons (ps_asg (pe_op op_add (pe_ix (kix_list K) (pv 0) pe_int (fun _ _ => rfl)) pe_int) (pg_sub (pv 0) pe_int set_list))
      (pss_cons (ps_set (i := 2) nd rfl (Or.inl rfl) (pe_op op_mod (pe_op op_pow (pe_callTy call_int1 rfl T.b_int (by decide +kernel) (pa_cons (pe_op op_add (pe_op op_add (pe_ix (kix_list K) (pv 0) pe_int (fun _ _ => rfl)) (pe_op op_mul pe_int (pe_ix (kix_list K) (pv 0) pe_int (fun _ _ => rfl)))) pe_int) pa_nil)) pe_int) pe_int))
      (pss_one (ps_ret (pe_op op_mod (pe_op op_mod (pe_op op_pow (pe_callTy call_int1 rfl T.b_int (by decide +kernel) (pa_cons (pe_op op_add (pe_op op_mul (pv 2) pe_int) (pe_op op_mul pe_int (pe_ix (kix_list K) (pv 0) pe_int (fun _ _ => rfl)))) pa_nil)) pe_int) pe_int) (pv 1))))))), ?_⟩
  refine ⟨_, rfl, d, _, 0, .int a, rfl, rfl, SqL.of hd, atI_nat (j := 0) rfl, _, _, rfl, rfl, _, rfl, ?_⟩
  refine iteB (b := decide (0 < a)) (fun ha => ?_) (fun ha => ?_)
  · refine ⟨_, rfl, d, _, 0, .int a, rfl, rfl, SqL.of hd, atI_nat (j := 0) rfl, .inl ⟨a, rfl, _, rfl, a, m, rfl, rfl, by show (0 : Int) < m; omega, ?_⟩⟩
    refine ⟨_, rfl, d, _, 0, .int a, rfl, rfl, SqL.of hd, atI_nat (j := 0) rfl, _, rfl, a, m, rfl, rfl, ⟨by omega, by omega⟩, ?_⟩
    refine ⟨_, rfl, d, _, 0, 0, rfl, rfl, hd, rfl, ?_⟩
    obtain ⟨h1, h2⟩ := emod_lt' (a := a) hm1
    refine ⟨_, rfl, hQ _ _ h1 h2 (fun b o hb hn => by rw [upd_ne hn]; exact hb) ⟨_, b, c, upd_same, hb1, hb2, hc1, by omega⟩⟩
  · refine ⟨_, rfl, d, _, 2, .int c, rfl, rfl, SqL.of hd, atI_nat (j := 2) rfl, _, _, rfl, rfl, ?_⟩
    refine ⟨_, rfl, d, _, 2, 2, rfl, rfl, hd, rfl, ?_⟩
    have hd1 : (upd H d (.lst ([.int a, .int b, .int c].set 2 (.int (c + 1))))) d = some (.lst [.int a, .int b, .int (c + 1)]) := upd_same
    have e1 : ExD d H (upd H d (.lst ([.int a, .int b, .int c].set 2 (.int (c + 1))))) := fun b o hb hn => by rw [upd_ne hn]; exact hb
    generalize upd H d (.lst ([.int a, .int b, .int c].set 2 (.int (c + 1)))) = H1 at hd1 e1 ⊢
    refine ⟨_, rfl, d, _, 1, .int b, rfl, rfl, SqL.of hd1, atI_nat (j := 1) rfl, _, rfl, d, _, 2, .int (c + 1), rfl, rfl, SqL.of hd1, atI_nat (j := 2) rfl, _, _, rfl, rfl, .inl (by decide), _, _, rfl, rfl, _, _, rfl, rfl, .inl ⟨_, rfl, ?_⟩⟩
    have hbase : (b + 7919 * (c + 1) + 104729).natAbs < 2 ^ 64 := by omega
    refine ⟨_, _, rfl, rfl, ⟨by decide, by decide, hbase⟩, _, _, rfl, rfl, by show (0 : Int) < 2147483629; decide, ?_⟩
    have hbase2 : ((b + 7919 * (c + 1) + 104729) ^ (5 : Int).toNat % 2147483629 * 48271 + 40503 * (c + 1)).natAbs < 2 ^ 64 := by
      obtain ⟨s1, s2⟩ := emod_lt' (a := (b + 7919 * (c + 1) + 104729) ^ (5 : Int).toNat) (m := 2147483629) (by decide)
      generalize (b + 7919 * (c + 1) + 104729) ^ (5 : Int).toNat % 2147483629 = sd at s1 s2 ⊢
      omega
    refine ⟨_, rfl, _, _, rfl, rfl, .inr (by decide), _, rfl, d, _, 2, .int (c + 1), rfl, rfl, SqL.of hd1, atI_nat (j := 2) rfl, _, _, rfl, rfl, .inl (by decide), _, _, rfl, rfl, .inl ⟨_, rfl, _, _, rfl, rfl, ⟨by decide, by decide, hbase2⟩, _, _, rfl, rfl, by show (0 : Int) < 1000000007; decide, _, rfl, _, m, rfl, rfl, by show (0 : Int) < m; omega, ?_⟩⟩
    exact hQ _ _ (emod_lt' hm1).1 (emod_lt' hm1).2 e1 ⟨a, b, c + 1, hd1, hb1, hb2, by omega, by omega⟩
theorem sc_law_source : FnScope ["_law_script", "_law_at", "_law_raw"] ["_law_script", "_law_at"] (defScope s_law_source) := C8.fnScope_by (by decide +kernel)
theorem cal_law_source (T : Txt mg) (D : Dfn K mg "_law_source" s_law_source ["_law_script", "_law_at"] []) : Cal P w K mg base (1) "_law_source" (spSource K) [] := by
  have nd := sc_law_source.nd
  refine D.cal sc_law_source (fun vs H Q E h => by obtain ⟨a, ns, i, rfl, hS, hi, hQ⟩ := h; rfl) (fun f cdv A outer s H vs Q E hr h => ?_)
  obtain ⟨a, ns, i, rfl, hS, hi, hQ⟩ := h
  refine ⟨_, (pss_cons (ps_set (i := 2) nd rfl (Or.inl rfl) (pe_ifExp (pt_cmpR op_lt (pv 1) (pe_callB (klen K) rfl T.b_len PySem.boot_len (pa_cons (pv 0) pa_nil)) (nomark _)) (pe_ix (kix_list K) (pv 0) (pv 1) (fun _ _ => rfl)) (pe_op op_add (pe_op op_mul pe_int (pv 1)) pe_int)))
      (pss_one (ps_ret (pe_lst (pa_cons (pe_ifExp (pt_cmpR op_ge (pv 2) (pe_op op_pow pe_int pe_int) (nomark _)) (pv 2) pe_int) (pa_cons (pe_op op_add (pe_op op_mod (pe_callTy call_int1 rfl T.b_int (by decide +kernel) (pa_cons (pv 2) pa_nil)) pe_int) (pe_op op_mul pe_int (pv 1))) (pa_cons pe_int pa_nil))))))), ?_⟩
  have nb : ∀ z : Int, 0 ≤ z % 2147483647 + 131 * (i : Int) := fun z => by
    obtain ⟨h1, h2⟩ := emod_lt' (a := z) (m := 2147483647) (by decide)
    omega
  have na : ∀ z : Int, z % 2147483647 + 131 * (i : Int) < 2 ^ 40 := fun z => by
    obtain ⟨h1, h2⟩ := emod_lt' (a := z) (m := 2147483647) (by decide)
    omega
  refine ⟨_, rfl, _, rfl, a, _, rfl, .inl hS, _, _, rfl, rfl, _, rfl, ?_⟩
  refine iteB (b := decide ((i : Int) < ((ns.map V.int).length : Int))) (fun h => ?_) (fun h => ?_)
  · have h := of_decide_eq_true h
    rw [List.length_map] at h
    refine ⟨_, rfl, _, rfl, a, _, (i : Int), .int (ns.getD i 0), rfl, rfl, hS, at_L (by omega), ?_⟩
    refine ⟨_, rfl, _, _, rfl, rfl, ⟨by decide, by decide, by decide⟩, _, _, rfl, rfl, _, rfl, ?_⟩
    refine iteB (b := decide ((10 : Int) ^ (18 : Int).toNat ≤ (ns.getD i 0))) (fun _ => ?_) (fun _ => ?_)
    · exact ⟨_, rfl, _, rfl, .inl ⟨_, rfl, _, _, rfl, rfl, by show (0 : Int) < 2147483647; decide, _, rfl, _, _, rfl, rfl, .inl (by decide), _, _, rfl, rfl, by show 3 ≤ sizeLine; decide, fun d hd => hQ d _ hd (Ex.new hd) ⟨_, _, _, upd_same, nb (ns.getD i 0), na (ns.getD i 0), by decide, by decide⟩⟩⟩
    · exact ⟨_, rfl, .inl ⟨_, rfl, _, _, rfl, rfl, by show (0 : Int) < 2147483647; decide, _, rfl, _, _, rfl, rfl, .inl (by decide), _, _, rfl, rfl, by show 3 ≤ sizeLine; decide, fun d hd => hQ d _ hd (Ex.new hd) ⟨_, _, _, upd_same, nb (ns.getD i 0), na (ns.getD i 0), by decide, by decide⟩⟩⟩
  · refine ⟨_, rfl, _, _, rfl, rfl, .inl (by decide), _, _, rfl, rfl, ?_⟩
    refine ⟨_, rfl, _, _, rfl, rfl, ⟨by decide, by decide, by decide⟩, _, _, rfl, rfl, _, rfl, ?_⟩
    refine iteB (b := decide ((10 : Int) ^ (18 : Int).toNat ≤ (11 * (i : Int) + 3))) (fun _ => ?_) (fun _ => ?_)
    · exact ⟨_, rfl, _, rfl, .inl ⟨_, rfl, _, _, rfl, rfl, by show (0 : Int) < 2147483647; decide, _, rfl, _, _, rfl, rfl, .inl (by decide), _, _, rfl, rfl, by show 3 ≤ sizeLine; decide, fun d hd => hQ d _ hd (Ex.new hd) ⟨_, _, _, upd_same, nb (11 * (i : Int) + 3), na (11 * (i : Int) + 3), by decide, by decide⟩⟩⟩
    · exact ⟨_, rfl, .inl ⟨_, rfl, _, _, rfl, rfl, by show (0 : Int) < 2147483647; decide, _, rfl, _, _, rfl, rfl, .inl (by decide), _, _, rfl, rfl, by show 3 ≤ sizeLine; decide, fun d hd => hQ d _ hd (Ex.new hd) ⟨_, _, _, upd_same, nb (11 * (i : Int) + 3), na (11 * (i : Int) + 3), by decide, by decide⟩⟩⟩
end
end K49

namespace K49
open PySem PySem.Spec PyProof.Rows L2
open C8 (Cal Met Mak pe_c pe_mk pe_mt pe_mt0 pe_gc)
open Evl (Ex)
/-- so many unlike ints from -4 to 4 -/
structure RsOk (n : Nat) (ts : List Int) : Prop where
  len : ts.length = n
  nd : ts.Nodup
  rg : ∀ t ∈ ts, -4 ≤ t ∧ t ≤ 4
def spRises : Sp := fun vs H Q _ => ∃ (d : Addr) (n m : Nat), vs = [.ref d, .int n] ∧ n ≤ 9 ∧ Drw H d m ∧ m + 9 ≤ 1000 ∧ ∀ p ts H', H p = none → ExD d H H' → H' p = some (.lst (ts.map V.int)) → RsOk n ts → Drw H' d (m + 9) → Q (.ref p) H'
def spCurved : Sp := fun vs H Q _ => ∃ (d : Addr) (k n m : Nat), vs = [.ref d, .int k, .int n] ∧ k ≤ 3 ∧ n ≤ 9 ∧ Drw H d m ∧ m + 9 ≤ 1000 ∧ ∀ p ts H', H p = none → ExD d H H' → Ls IsP H' p (ts.map (curve k)) → RsOk n ts → Drw H' d (m + 9) → Q (.ref p) H'
theorem seqIx {r : Int} {n : Nat} (h0 : 0 ≤ r) (h : r < n) : seqIndex? r n = some r.toNat := by
  have : ¬ r < 0 := by omega
  simp [seqIndex?, this, h0, h]
theorem erase_perm {α : Type} {l : List α} {k : Nat} {y : α} (h : l[k]? = some y) : (y :: l.eraseIdx k).Perm l := by
  obtain ⟨hk, rfl⟩ := List.getElem?_eq_some_iff.mp h
  rw [List.eraseIdx_eq_take_drop_succ]
  have e : l = l.take k ++ l[k] :: l.drop (k + 1) := by rw [List.getElem_cons_drop, List.take_append_drop]
  have z : (l[k] :: (l.take k ++ l.drop (k + 1))).Perm (l.take k ++ l[k] :: l.drop (k + 1)) := List.perm_middle.symm
  exact z.trans (by rw [← e])
section
variable {P : Program} {w : World} {K : PySem.W.Frag} {mg : Str → Option Value} {base : Heap}
theorem sc_law_mixed : FnScope ["_law_draws", "_law_things", "_law_left", "_law_k"] ["_law_draws", "_law_things"] (defScope s_law_mixed) := C8.fnScope_by (by decide +kernel)
theorem cal_law_mixed (T : Txt mg) (D : Dfn K mg "_law_mixed" s_law_mixed ["_law_draws", "_law_things"] [])
    (C_law_draw : Cal P w K mg base 1 "_law_draw" spDraw []) : Cal P w K mg base (2) "_law_mixed" (spMixed K) [] := by
  have nd := sc_law_mixed.nd
  refine D.cal sc_law_mixed (fun vs H Q E h => by obtain ⟨d, a, xs, n, rfl, ha, nad, hl, hD, hn, hQ⟩ := h; rfl) (fun f cdv A outer s H vs Q E hr h => ?_)
  obtain ⟨d, a, xs, n, rfl, ha, nad, hl, hD, hn, hQ⟩ := h
  refine ⟨_, (pss_cons (ps_set (i := 2) nd rfl (Or.inr rfl) (pe_callTy (klist_of K) rfl T.b_list (by decide +kernel) (pa_cons (pv 1) pa_nil)))
      (pss_one (ps_ret (pe_lc rfl nd (pi_range1 rfl T.b_range (pa_cons (pe_callB (klen K) rfl T.b_len PySem.boot_len (pa_cons (pv 2) pa_nil)) pa_nil)) (blkOk_by (own := [("_law_k", 3)]) (N := ["_law_draws", "_law_things", "_law_left", "_law_k"]) (sc := defScope s_law_mixed) (by decide +kernel)) (fun _ _ _ _ _ => (pg_name (i := 3) nd rfl (Or.inl rfl))) (fun _ _ _ _ _ => pts_nil) (fun _ _ _ _ _ => (kpe_bm K PySem.F.plainAttrs_list PySem.F.slot_list_pop PySem.F.type_list_pop mt_popAt (pv 2) (pa_cons (pe_c C_law_draw hr (by decide) rfl (pa_cons (pv 0) (pa_cons (pe_callB (klen K) rfl T.b_len PySem.boot_len (pa_cons (pv 2) pa_nil)) pa_nil))) pa_nil))))))), ?_⟩
  refine ⟨_, rfl, a, xs, rfl, .inl (SqL.of ha), fun L hL => ?_⟩
  have eL := Ex.new (o := .lst xs) hL
  have hD1 := hD.ex eL
  have nLd : L ≠ d := fun e => by
    obtain ⟨_, _, _, z, _⟩ := hD
    rw [e, z] at hL
    cases hL
  have hL1 : (upd H L (.lst xs)) L = some (.lst xs) := upd_same
  generalize upd H L (.lst xs) = H1 at eL hD1 hL1 ⊢
  refine ⟨_, rfl, L, xs, rfl, .inl (SqL.of hL1), (xs.length : Int), rfl, by omega, by omega, fun D hDn => ?_⟩
  have nDd : D ≠ d := fun e => by
    obtain ⟨_, _, _, z, _⟩ := hD1
    rw [e, z] at hDn
    cases hDn
  have nDL : D ≠ L := fun e => by rw [e, hL1] at hDn; cases hDn
  have hDH : H D = none := Evl.fresh_back eL hDn
  have wk : Walk (Itr 0 (xs.length : Int).toNat) xs.length (fun _ => True) (YFn fun i => .int (0 + i)) := by
    have z := walk_range (lo := 0) (n := (xs.length : Int).toNat)
    rw [Int.toNat_natCast] at z ⊢
    exact z
  refine lc_it wk (fun i H' => (∀ b o, H1 b = some o → b ≠ d → b ≠ L → H' b = some o) ∧ Drw H' d (n + i) ∧ ∃ acc rest, H' D = some (.lst acc) ∧ H' L = some (.lst rest) ∧ (acc ++ rest).Perm xs ∧ acc.length = i) ⟨fun b o hb _ _ => by rw [upd_ne (ne_of_none hb hDn)]; exact hb, hD1.ex (Ex.new hDn), [], xs, upd_same, by rw [upd_ne nDL.symm]; exact hL1, List.Perm.refl _, rfl⟩ (fun i H' _ h => trivial) (fun i y H2 H3 hi h hy => ?_) (fun H2 h => ?_)
  · obtain ⟨k1, k2, acc, rest, h1, h2, h3, h4⟩ := h
    obtain ⟨rfl, rfl⟩ := hy
    have hrl : rest.length = xs.length - i := by
      have := h3.length_eq
      rw [List.length_append] at this
      omega
    refine ⟨rfl, _, rfl, .inl ⟨rfl, _, SqL.of h2⟩, _, rfl, _, rfl, L, rest, rfl, .inl (SqL.of h2), d, (rest.length : Int), n + i, rfl, by omega, by omega, k2, by omega, fun r H5 r0 r1 e5 hD5 => ?_⟩
    have h2' := e5 _ _ h2 nLd
    have h1' := e5 _ _ h1 nDd
    have hrt : r.toNat < rest.length := by omega
    refine ⟨L, rest, r, r.toNat, rest[r.toNat], rfl, rfl, h2', by omega, by omega, seqIx r0 r1, List.getElem?_eq_getElem hrt, acc, by rw [upd_ne nDL]; exact h1', szl (by omega), ?_⟩
    have pe := erase_perm (List.getElem?_eq_getElem hrt)
    refine ⟨fun b o hb n1 n2 => ?_, ?_, acc ++ [rest[r.toNat]], rest.eraseIdx r.toNat, upd_same, ?_, ?_, by rw [List.length_append, h4]; rfl⟩
    · rw [upd_ne (ne_of_none hb hDn), upd_ne n2]
      exact e5 _ _ (k1 b o hb n1 n2) n1
    · obtain ⟨a1, b1, c1, z1, z2⟩ := hD5
      exact ⟨a1, b1, c1, by rw [upd_ne nDd.symm, upd_ne nLd.symm]; exact z1, z2.1, z2.2.1, z2.2.2.1, by have := z2.2.2.2; omega⟩
    · rw [upd_ne nDL.symm, upd_same]
    · rw [List.append_assoc]
      exact (List.Perm.append_left acc pe).trans h3
  · obtain ⟨k1, k2, acc, rest, h1, h2, h3, h4⟩ := h
    have hr0 : rest = [] := by
      have := h3.length_eq
      rw [List.length_append] at this
      exact List.eq_nil_of_length_eq_zero (by omega)
    rw [hr0, List.append_nil] at h3
    refine hQ D acc H2 hDH (fun b o hb nb => k1 b o (eL _ _ hb) nb (fun e => by rw [e, hL] at hb; cases hb)) h1 h3 k2
theorem perm_ints {ys : List V} {ns : List Int} (h : ys.Perm (ns.map V.int)) : ∃ ms : List Int, ys = ms.map V.int ∧ ms.Perm ns := by
  have key : ∀ ys : List V, (∀ y ∈ ys, ∃ i, y = V.int i) → ∃ ms : List Int, ys = ms.map V.int := by
    intro ys
    induction ys with
    | nil => exact fun _ => ⟨[], rfl⟩
    | cons y r ih =>
      intro q
      obtain ⟨i, rfl⟩ := q y (List.mem_cons_self ..)
      obtain ⟨ms, rfl⟩ := ih fun z hz => q z (List.mem_cons_of_mem _ hz)
      exact ⟨i :: ms, rfl⟩
  obtain ⟨ms, rfl⟩ := key ys fun y hy => by
    obtain ⟨i, _, rfl⟩ := List.mem_map.mp (h.mem_iff.mp hy)
    exact ⟨i, rfl⟩
  refine ⟨ms, rfl, ?_⟩
  have z := h.map fun v => match v with | V.int i => i | _ => 0
  rw [List.map_map, List.map_map] at z
  have e : ∀ l : List Int, l.map ((fun v => match v with | V.int i => i | _ => 0) ∘ V.int) = l := fun l => by
    induction l with
    | nil => rfl
    | cons x r ih => rw [List.map_cons, ih]; rfl
  rwa [e, e] at z
def nine : List Int := [-4, -3, -2, -1, 0, 1, 2, 3, 4]
theorem rg_nine : rgV (-4) 5 = nine.map V.int := rfl
theorem sc_law_rises : FnScope ["_law_draws", "_law_many"] ["_law_draws", "_law_many"] (defScope s_law_rises) := C8.fnScope_by (by decide +kernel)
theorem cal_law_rises (T : Txt mg) (D : Dfn K mg "_law_rises" s_law_rises ["_law_draws", "_law_many"] [])
    (C_law_mixed : Cal P w K mg base 2 "_law_mixed" (spMixed K) []) : Cal P w K mg base (3) "_law_rises" (spRises) [] := by
  have nd := sc_law_rises.nd
  refine D.cal sc_law_rises (fun vs H Q E h => by obtain ⟨d, n, m, rfl, hn, hD, hm, hQ⟩ := h; rfl) (fun f cdv A outer s H vs Q E hr h => ?_)
  obtain ⟨d, n, m, rfl, hn, hD, hm, hQ⟩ := h
  refine ⟨_, (pss_one (ps_ret (pe_slice (ksl_list K) (pe_c C_law_mixed hr (by decide) rfl (pa_cons (pv 0) (pa_cons (pe_listRg rfl rfl T.b_list (prg_2 rfl T.b_range (pe_un un_neg pe_int) pe_int)) pa_nil))) po_none (po_some (pv 1))))), ?_⟩
  refine ⟨_, rfl, 4, rfl, _, _, rfl, rfl, ⟨by decide, by decide, by decide, by decide, by decide⟩, fun q hq => ?_⟩
  have eq := Ex.new (o := .lst (rgV (-4) 5)) hq
  have nqd : q ≠ d := fun e => by
    obtain ⟨_, _, _, z, _⟩ := hD
    rw [e, z] at hq
    cases hq
  refine ⟨d, q, rgV (-4) 5, m, rfl, upd_same, nqd, by decide, hD.ex eq, by show m + 9 ≤ 1000; omega, fun p ys H5 hp e5 hp5 hpm hD5 => ?_⟩
  have hpm : ys.Perm (nine.map V.int) := hpm
  obtain ⟨ts, rfl, hts⟩ := perm_ints hpm
  refine ⟨_, rfl, (n : Int), rfl, p, _, rfl, SqL.of hp5, fun s hs => ?_⟩
  rw [cut_take, ← List.map_take]
  have es := Ex.new (o := .lst ((ts.take n).map V.int)) hs
  have e05 : ExD d H H5 := (ExD.of eq).trans e5
  have hsH : H s = none := by
    cases e : H s with
    | none => rfl
    | some o =>
      by_cases hsd : s = d
      · obtain ⟨_, _, _, z, _⟩ := hD5
        rw [hsd, z] at hs
        cases hs
      · rw [e05 _ _ e hsd] at hs
        cases hs
  refine hQ s (ts.take n) _ hsH (e05.trans (ExD.of es)) upd_same ⟨?_, ?_, fun t ht => ?_⟩ (hD5.ex es)
  · rw [List.length_take, hts.length_eq]
    show min n 9 = n
    omega
  · exact ((hts.nodup_iff).mpr (by decide)).sublist (List.take_sublist _ _)
  · have z := hts.mem_iff.mp (List.mem_of_mem_take ht)
    simp [nine] at z
    omega
theorem sc_law_curved : FnScope ["_law_draws", "_law_places", "_law_many", "_law_rows", "_law_at", "_law_row"] ["_law_draws", "_law_places", "_law_many"] (defScope s_law_curved) := C8.fnScope_by (by decide +kernel)
theorem cal_law_curved (T : Txt mg) (D : Dfn K mg "_law_curved" s_law_curved ["_law_draws", "_law_places", "_law_many"] [])
    (C_law_rises : Cal P w K mg base 3 "_law_rises" spRises []) : Cal P w K mg base (4) "_law_curved" (spCurved) [] := by
  have nd := sc_law_curved.nd
  refine D.cal sc_law_curved (fun vs H Q E h => by obtain ⟨d, k, n, m, rfl, hk, hn, hD, hm, hQ⟩ := h; rfl) (fun f cdv A outer s H vs Q E hr h => ?_)
  obtain ⟨d, k, n, m, rfl, hk, hn, hD, hm, hQ⟩ := h
  refine ⟨_, (pss_cons (ps_setLc (i := 3) rfl nd rfl rfl (sw_true rfl rfl rfl (by decide +kernel)) (kpi_list K (pe_c C_law_rises hr (by decide) rfl (pa_cons (pv 0) (pa_cons (pv 2) pa_nil)))) (blkOk_by (own := [("_law_at", 4)]) (N := ["_law_draws", "_law_places", "_law_many", "_law_rows", "_law_at", "_law_row"]) (sc := defScope s_law_curved) (by decide +kernel)) (fun _ _ _ _ _ => (pg_name (i := 4) nd rfl (Or.inl rfl))) (fun _ _ _ _ _ => pts_nil) (fun _ _ _ _ _ => (pe_tup (pa_cons (pv 4) (pa_cons (pe_op op_mul (pv 4) (pv 4)) (pa_cons (pe_op op_mul (pe_op op_mul (pv 4) (pv 4)) (pv 4)) pa_nil))))))
      (pss_one (ps_ret (pe_lc rfl nd (kpi_list K (pv 3)) (blkOk_by (own := [("_law_row", 5)]) (N := ["_law_draws", "_law_places", "_law_many", "_law_rows", "_law_at", "_law_row"]) (sc := defScope s_law_curved) (by decide +kernel)) (fun _ _ _ _ _ => (pg_name (i := 5) nd rfl (Or.inl rfl))) (fun _ _ _ _ _ => pts_nil) (fun _ _ _ _ _ => (pe_slice (ksl_tup K) (pv 5) po_none (po_some (pv 1)))))))), ?_⟩
  refine ⟨_, rfl, _, rfl, d, n, m, rfl, hn, hD, hm, fun q ts H1 hq e1 hq1 hts hD1 => ?_⟩
  have htl := hts.len
  refine ⟨q, rfl, ⟨_, SqL.of hq1⟩, fun D hDn => lc_data ts (fun _ => true) IsP (fun t => [t, t * t, t * t * t]) (Y := YAt (ts.map V.int)) (G := fun H => SqL K H q (ts.map V.int)) (by have z := walk_list (K := K) (a := q) (xs := ts.map V.int); rw [List.length_map] at z; exact z) tst_P (by omega) hDn (fun H e => SqL.of (e _ _ hq1)) (fun i x H H' h => h.1 ▸ Ex.refl H) (fun i t x H H' ht e hy Ky Kn k1 k2 => ?_) (fun H2 e2 hL2 => ?_)⟩
  · obtain ⟨rfl, hx⟩ := hy
    rw [List.getElem?_map, ht] at hx
    obtain rfl := Option.some.inj hx
    obtain ⟨t1, t2⟩ := hts.rg t (List.mem_of_getElem? ht)
    have hb : t * t ≤ 16 := by
      have : t = -4 ∨ t = -3 ∨ t = -2 ∨ t = -1 ∨ t = 0 ∨ t = 1 ∨ t = 2 ∨ t = 3 ∨ t = 4 := by omega
      rcases this with rfl | rfl | rfl | rfl | rfl | rfl | rfl | rfl | rfl <;> decide
    refine ⟨rfl, _, rfl, _, rfl, _, rfl, _, _, rfl, rfl, .inl ⟨by omega, by omega⟩, _, rfl, _, rfl, _, _, rfl, rfl, .inl ⟨by omega, by omega⟩, _, rfl, _, _, rfl, rfl, .inr ⟨by omega, by omega⟩, by show 3 ≤ sizeLine; decide, fun T hT => k1 rfl _ _ (Ex.new hT) ⟨T, rfl, upd_same⟩⟩
  · rw [filter_all] at hL2
    obtain ⟨ys, hD2, hys⟩ := hL2
    have hyl := hys.length
    rw [List.length_map] at hyl
    refine ⟨_, rfl, D, rfl, ⟨ys, SqL.of hD2⟩, fun F hF => lc_data (ts.map fun t => [t, t * t, t * t * t]) (fun _ => true) IsP (fun r => r.take k) (Y := YAt ys) (G := fun H => SqL K H D ys) (by have z := walk_list (K := K) (a := D) (xs := ys); rw [hyl, ← List.length_map (f := fun t : Int => [t, t * t, t * t * t])] at z; exact z) tst_P (by rw [List.length_map]; omega) hF (fun H e => SqL.of (e _ _ hD2)) (fun i x H H' h => h.1 ▸ Ex.refl H) (fun i r x H H' hr' e hy Ky Kn k1 k2 => ?_) (fun H3 e3 hL3 => ?_)⟩
    · obtain ⟨rfl, hx⟩ := hy
      obtain ⟨r', hr2, b, rfl, hb⟩ := paired_of hys hx
      obtain rfl := Option.some.inj (hr2.symm.trans hr')
      refine ⟨rfl, _, rfl, _, rfl, (k : Int), rfl, b, _, rfl, SqT.of (e _ _ hb), ?_⟩
      refine ⟨fun hw => k1 rfl _ _ (Ex.refl _) ⟨b, rfl, ?_⟩, fun _ T hT => k1 rfl _ _ (Ex.new hT) ⟨T, rfl, ?_⟩⟩
      · rw [HT.sIx_nat, List.length_map] at hw
        rw [List.take_of_length_le (by omega)]
        exact e _ _ hb
      · rw [upd_same, cut_take, ← List.map_take]
    · rw [filter_all] at hL3
      have hL3' : Ls IsP H3 F (ts.map (curve k)) := by
        rw [List.map_map] at hL3
        exact hL3
      have e13 := e1.trans (ExD.of (e2.trans e3))
      have hFH : H F = none := by
        cases e : H F with
        | none => rfl
        | some o =>
          by_cases hsd : F = d
          · obtain ⟨_, _, _, z, _⟩ := hD1
            rw [hsd, e2 _ _ z] at hF
            cases hF
          · rw [e2 _ _ (e1 _ _ e hsd)] at hF
            cases hF
      exact hQ F ts H3 hFH e13 hL3' hts (hD1.ex (e2.trans e3))
end
end K49

namespace K49
open PySem PySem.Spec PyProof.Rows L2
open C8 (Cal Met Mak pe_c pe_mk pe_mt pe_mt0 pe_gc)
open Evl (Ex)
/-- numbers of choices, as they are reckoned -/
def chs (m : Int) : Nat → Int
  | 0 => 1
  | k + 1 => chs m k * (m - (k : Nat)) / ((k : Nat) + 1)
theorem chs_bnd {m : Int} (h0 : 0 ≤ m) (h : m ≤ 5) {i : Nat} (hi : i ≤ 7) : (chs m i).natAbs < 2 ^ 20 := by
  have hm : m = 0 ∨ m = 1 ∨ m = 2 ∨ m = 3 ∨ m = 4 ∨ m = 5 := by omega
  have hi' : i = 0 ∨ i = 1 ∨ i = 2 ∨ i = 3 ∨ i = 4 ∨ i = 5 ∨ i = 6 ∨ i = 7 := by omega
  rcases hm with rfl | rfl | rfl | rfl | rfl | rfl <;> rcases hi' with rfl | rfl | rfl | rfl | rfl | rfl | rfl | rfl <;> decide
def chSum (m : Int) (k : Nat) : Int := ((List.range k).map fun i => chs m i).sum
def halvesOf (p n : Nat) : Int := if 0 < n then 2 * chSum ((n : Int) - 1) (p + 1) else 1
def flatsOf (p n : Nat) : Int := chSum n (p + 1) + (if p < n then 1 else 0)
def spChoices : Sp := fun vs H Q _ => ∃ (m : Int) (t : Nat), vs = [.int m, .int t] ∧ 0 ≤ m ∧ m ≤ 5 ∧ t ≤ 7 ∧ Q (.int (chs m t)) H
def spSameI : Sp := fun vs H Q _ => ∃ i j : Int, vs = [.int i, .int j] ∧ RV (.bl (decide (i = j))) H Q
def spSameL : Sp := fun vs H Q _ => ∃ (a b : Addr) (xs ys : List Int), vs = [.ref a, .ref b] ∧ H a = some (.lst (xs.map V.int)) ∧ H b = some (.lst (ys.map V.int)) ∧ xs.length ≤ 100 ∧ RV (.bl (decide (xs = ys))) H Q
/-- how often so many can be halved -/
def Halv (n d u : Nat) : Prop := 2 ^ d ≤ n ∧ n < 2 ^ (d + 1) ∧ n ≤ 2 ^ u ∧ (u = 0 ∨ 2 ^ (u - 1) < n)
def spHalvings : Sp := fun vs H Q _ => ∃ n : Nat, vs = [.int n] ∧ 1 ≤ n ∧ n ≤ 100 ∧ ∀ t (d u : Nat) H', Ex H H' → H' t = some (.tup [.int d, .int u]) → Halv n d u → Q (.ref t) H'
def spHalvesOf : Sp := fun vs H Q _ => ∃ p n : Nat, vs = [.int p, .int n] ∧ p ≤ 3 ∧ n ≤ 5 ∧ RV (.int (halvesOf p n)) H Q
def spFlatsOf : Sp := fun vs H Q _ => ∃ p n : Nat, vs = [.int p, .int n] ∧ p ≤ 3 ∧ n ≤ 5 ∧ RV (.int (flatsOf p n)) H Q
section
variable {P : Program} {w : World} {K : PySem.W.Frag} {mg : Str → Option Value} {base : Heap}
theorem sc_law_choices : FnScope ["_law_many", "_law_taken", "_law_found", "_law_k"] ["_law_many", "_law_taken"] (defScope s_law_choices) := C8.fnScope_by (by decide +kernel)
theorem cal_law_choices (T : Txt mg) (D : Dfn K mg "_law_choices" s_law_choices ["_law_many", "_law_taken"] []) : Cal P w K mg base (1) "_law_choices" (spChoices) [] := by
  have nd := sc_law_choices.nd
  refine D.cal sc_law_choices (fun vs H Q E h => by obtain ⟨m, t, rfl, h0, h5, ht, hQ⟩ := h; rfl) (fun f cdv A outer s H vs Q E hr h => ?_)
  obtain ⟨m, t, rfl, h0, h5, ht, hQ⟩ := h
  refine ⟨_, (pss_cons (ps_set (i := 2) nd rfl (Or.inl rfl) pe_int)
      (pss_cons (ps_for PassesOwn.never rfl (pi_range1 rfl T.b_range (pa_cons (pv 1) pa_nil)) (pg_name (i := 3) nd rfl (Or.inl rfl)) (pss_one (ps_set (i := 2) nd rfl (Or.inl rfl) (pe_op op_fdiv (pe_op op_mul (pv 2) (pe_op op_sub (pv 0) (pv 3))) (pe_op op_add (pv 3) pe_int)))))
      (pss_one (ps_ret (pv 2))))), ?_⟩
  refine ⟨_, rfl, (t : Int), rfl, by omega, by omega, for_it (by have z := walk_range (lo := 0) (n := (t : Int).toNat); rw [Int.toNat_natCast] at z ⊢; exact z) (fun i σ H' => H' = H ∧ ∃ x3, σ = [some (.int m), some (.int t), some (.int (chs m i)), x3]) ⟨rfl, _, rfl⟩ (fun i σ H' _ h => trivial) (fun i y σ H1 H2 hi h hy => ?_) (fun σ H' h => ?_)⟩
  · obtain ⟨rfl, x3, rfl⟩ := h
    obtain ⟨rfl, rfl⟩ := hy
    have hb := chs_bnd h0 h5 (show i ≤ 7 by omega)
    refine ⟨_, rfl, _, rfl, _, rfl, _, _, rfl, rfl, _, _, rfl, rfl, .inl ⟨by omega, by omega⟩, _, rfl, _, _, rfl, rfl, _, _, rfl, rfl, ⟨by omega, by omega⟩, ?_⟩
    rw [show (0 : Int) + (i : Nat) = (i : Nat) by omega]
    exact ⟨rfl, _, rfl⟩
  · obtain ⟨rfl, x3, rfl⟩ := h
    exact ⟨_, rfl, hQ⟩
theorem sc_law_halvings : FnScope ["_law_many", "_law_reach", "_law_down", "_law_up"] ["_law_many"] (defScope s_law_halvings) := C8.fnScope_by (by decide +kernel)
theorem cal_law_halvings (T : Txt mg) (D : Dfn K mg "_law_halvings" s_law_halvings ["_law_many"] []) : Cal P w K mg base (1) "_law_halvings" (spHalvings) [] := by
  have nd := sc_law_halvings.nd
  refine D.cal sc_law_halvings (fun vs H Q E h => by obtain ⟨n, rfl, h1, h100, hQ⟩ := h; rfl) (fun f cdv A outer s H vs Q E hr h => ?_)
  obtain ⟨n, rfl, h1, h100, hQ⟩ := h
  refine ⟨_, (pss_cons (ps_asg (pe_tup (pa_cons pe_int (pa_cons pe_int (pa_cons pe_int pa_nil)))) (kpg_tup K 3 rfl (pgs_cons (pg_name (i := 2) nd rfl (Or.inl rfl)) (pgs_cons (pg_name (i := 3) nd rfl (Or.inl rfl)) (pgs_cons (pg_name (i := 1) nd rfl (Or.inl rfl)) pgs_nil)))))
      (pss_cons (ps_while PassesOwn.never (pt_cmpR op_le (pe_op op_mul pe_int (pv 1)) (pv 0) (nomark _)) (pss_one (ps_par (i := 2) (j := 1) rfl nd rfl rfl (by decide) rfl rfl (pa_cons (pe_op op_add (pv 2) pe_int) (pa_cons (pe_op op_mul pe_int (pv 1)) pa_nil)) rfl)))
      (pss_cons (ps_set (i := 1) nd rfl (Or.inl rfl) pe_int)
      (pss_cons (ps_while PassesOwn.never (pt_cmpR op_lt (pv 1) (pv 0) (nomark _)) (pss_one (ps_par (i := 3) (j := 1) rfl nd rfl rfl (by decide) rfl rfl (pa_cons (pe_op op_add (pv 3) pe_int) (pa_cons (pe_op op_mul pe_int (pv 1)) pa_nil)) rfl)))
      (pss_one (ps_ret (pe_tup (pa_cons (pv 2) (pa_cons (pv 3) pa_nil))))))))), ?_⟩
  refine ⟨by show 3 ≤ sizeLine; decide, fun t0 ht0 => ⟨t0, _, rfl, SqT.of upd_same, rfl, _, _, rfl, _, _, rfl, _, _, rfl, rfl, ?_⟩⟩
  have e0 := Ex.new (o := .tup [.int 0, .int 0, .int 1]) ht0
  generalize upd H t0 (.tup [.int 0, .int 0, .int 1]) = H1 at e0 ⊢
  refine ⟨fun m σ H' => H' = H1 ∧ ∃ d : Nat, m = n - 2 ^ d ∧ 2 ^ d ≤ n ∧ σ = [some (.int n), some (.int ((2 ^ d : Nat) : Int)), some (.int d), some (.int 0)], ⟨_, rfl, 0, rfl, by omega, rfl⟩, fun m σ H' h => ?_⟩
  obtain ⟨rfl, d, rfl, hd, rfl⟩ := h
  refine ⟨_, rfl, _, _, rfl, rfl, .inl (by decide), _, rfl, _, _, rfl, rfl, _, rfl, ?_⟩
  refine iteB (b := decide (2 * (((2 ^ d : Nat) : Int)) ≤ (n : Int))) (fun h => ?_) (fun h => ?_)
  · have h := of_decide_eq_true h
    have hp : 2 ^ (d + 1) = 2 * 2 ^ d := by rw [Nat.pow_succ, Nat.mul_comm]
    have hpos : 0 < 2 ^ d := Nat.two_pow_pos d
    refine ⟨fun σ' H'' => ∃ m', m' < n - 2 ^ d ∧ _, fun σ' H'' h => h, ?_⟩
    refine ⟨_, rfl, _, _, rfl, rfl, _, rfl, _, _, rfl, rfl, .inl (by decide), _, _, rfl, n - 2 ^ (d + 1), by omega, rfl, d + 1, rfl, by omega, ?_⟩
    show [some (V.int n), some (.int (2 * ((2 ^ d : Nat) : Int))), some (.int ((d : Int) + 1)), some (.int 0)] = _
    rw [hp]
    simp
  · have h := of_decide_eq_false h
    have hp : 2 ^ (d + 1) = 2 * 2 ^ d := by rw [Nat.pow_succ, Nat.mul_comm]
    have hd2 : n < 2 ^ (d + 1) := by omega
    refine ⟨fun m σ H'' => H'' = H' ∧ ∃ u : Nat, m = n - 2 ^ u ∧ (u = 0 ∨ 2 ^ (u - 1) < n) ∧ σ = [some (.int n), some (.int ((2 ^ u : Nat) : Int)), some (.int d), some (.int u)], ⟨_, rfl, 0, rfl, .inl rfl, rfl⟩, fun m σ H'' h => ?_⟩
    obtain ⟨rfl, u, rfl, hu, rfl⟩ := h
    refine ⟨_, rfl, _, rfl, _, _, rfl, rfl, _, rfl, ?_⟩
    refine iteB (b := decide (((2 ^ u : Nat) : Int) < (n : Int))) (fun h => ?_) (fun h => ?_)
    · have h := of_decide_eq_true h
      have hpu : 2 ^ (u + 1) = 2 * 2 ^ u := by rw [Nat.pow_succ, Nat.mul_comm]
      have hpos : 0 < 2 ^ u := Nat.two_pow_pos u
      refine ⟨fun σ' H'' => ∃ m', m' < n - 2 ^ u ∧ _, fun σ' H'' h => h, ?_⟩
      refine ⟨_, rfl, _, _, rfl, rfl, _, rfl, _, _, rfl, rfl, .inl (by decide), _, _, rfl, n - 2 ^ (u + 1), by omega, rfl, u + 1, rfl, .inr (by rw [Nat.add_sub_cancel]; omega), ?_⟩
      show [some (V.int n), some (.int (2 * ((2 ^ u : Nat) : Int))), some (.int d), some (.int ((u : Int) + 1))] = _
      rw [hpu]
      simp
    · have h := of_decide_eq_false h
      refine ⟨_, rfl, _, rfl, by show 2 ≤ sizeLine; decide, fun t ht => ?_⟩
      exact hQ t d u _ (e0.trans (Ex.new ht)) upd_same ⟨hd, hd2, by omega, hu⟩
theorem sc_law_halves_of : FnScope ["_law_places", "_law_many", "_law_k"] ["_law_places", "_law_many"] (defScope s_law_halves_of) := C8.fnScope_by (by decide +kernel)
theorem cal_law_halves_of (T : Txt mg) (D : Dfn K mg "_law_halves_of" s_law_halves_of ["_law_places", "_law_many"] [])
    (C_law_choices : Cal P w K mg base 1 "_law_choices" spChoices []) : Cal P w K mg base (2) "_law_halves_of" (spHalvesOf) [] := by
  have nd := sc_law_halves_of.nd
  refine D.cal sc_law_halves_of (fun vs H Q E h => by obtain ⟨k, n, rfl, hk, hn, hQ⟩ := h; rfl) (fun f cdv A outer s H vs Q E hr h => ?_)
  obtain ⟨k, n, rfl, hk, hn, hQ⟩ := h
  refine ⟨_, (pss_one (ps_ret (pe_ifExp (pt_cmpR op_gt (pv 1) pe_int (nomark _)) (pe_op op_mul pe_int (pe_callB (ksum K rfl) rfl T.b_sum (by decide +kernel) (pa_cons (pe_lc rfl nd (pi_range1 rfl T.b_range (pa_cons (pe_op op_add (pv 0) pe_int) pa_nil)) (blkOk_by (own := [("_law_k", 2)]) (N := ["_law_places", "_law_many", "_law_k"]) (sc := defScope s_law_halves_of) (by decide +kernel)) (fun _ _ _ _ _ => (pg_name (i := 2) nd rfl (Or.inl rfl))) (fun _ _ _ _ _ => pts_nil) (fun _ _ _ _ _ => (pe_c C_law_choices hr (by decide) rfl (pa_cons (pe_op op_sub (pv 1) pe_int) (pa_cons (pv 2) pa_nil))))) pa_nil))) pe_int))), ?_⟩
  refine ⟨_, rfl, _, _, rfl, rfl, _, rfl, ?_⟩
  refine iteB (b := decide ((0 : Int) < (n : Int))) (fun h => ?_) (fun h => ?_)
  · have h := of_decide_eq_true h
    refine ⟨_, rfl, _, _, rfl, rfl, ((k : Int) + 1), rfl, by omega, by omega, fun F hF => lc_data (List.range (k + 1)) (fun _ => true) IsI (fun i => chs ((n : Int) - 1) i) (Y := YFn fun i => .int (0 + i)) (G := fun _ => True) (by have z := walk_range (lo := 0) (n := ((k : Int) + 1).toNat); rw [show ((k : Int) + 1).toNat = (List.range (k + 1)).length by rw [List.length_range]; omega] at z ⊢; exact z) tst_I (by rw [List.length_range]; omega) hF (fun H e => trivial) (fun i x H H' h => h.1 ▸ Ex.refl H) (fun j i y H9 H5 hi e5 hy Ky Kn k1 k2 => ?_) (fun H5 e5 hLs => ?_)⟩
    · obtain ⟨rfl, rfl⟩ := hy
      have hj : j < k + 1 := by
        have := (List.getElem?_eq_some_iff.mp hi).1
        rw [List.length_range] at this
        exact this
      rw [List.getElem?_range hj] at hi
      obtain rfl := Option.some.inj hi
      have ez : (fun i : Nat => V.int (0 + (i : Int))) j = .int j := by show V.int (0 + (j : Int)) = _; rw [Int.zero_add]
      rw [ez]
      refine ⟨rfl, _, rfl, _, _, rfl, rfl, _, rfl, (n : Int) - 1, j, rfl, by omega, by omega, by omega, k1 rfl _ _ (Ex.refl _) rfl⟩
    · rw [filter_all] at hLs
      have hF5 := ls_I hLs
      refine ⟨F, _, rfl, SqL.of hF5, _, _, rfl, rfl, .inl (by decide), ?_⟩
      have e : halvesOf k n = 2 * ((List.range (k + 1)).map fun i => chs ((n : Int) - 1) i).sum := by
        unfold halvesOf chSum
        rw [if_pos (by omega)]
      have z := hQ H5 e5
      rw [e] at z
      exact z
  · have h := of_decide_eq_false h
    have e : halvesOf k n = 1 := by
      unfold halvesOf
      rw [if_neg (by omega)]
    have z := hQ H (Ex.refl H)
    rw [e] at z
    exact z
theorem sc_law_flats_of : FnScope ["_law_places", "_law_many", "_law_found", "_law_k"] ["_law_places", "_law_many"] (defScope s_law_flats_of) := C8.fnScope_by (by decide +kernel)
theorem cal_law_flats_of (T : Txt mg) (D : Dfn K mg "_law_flats_of" s_law_flats_of ["_law_places", "_law_many"] [])
    (C_law_choices : Cal P w K mg base 1 "_law_choices" spChoices []) : Cal P w K mg base (2) "_law_flats_of" (spFlatsOf) [] := by
  have nd := sc_law_flats_of.nd
  refine D.cal sc_law_flats_of (fun vs H Q E h => by obtain ⟨k, n, rfl, hk, hn, hQ⟩ := h; rfl) (fun f cdv A outer s H vs Q E hr h => ?_)
  obtain ⟨k, n, rfl, hk, hn, hQ⟩ := h
  refine ⟨_, (pss_cons (ps_set (i := 2) nd rfl (Or.inl rfl) (pe_callB (ksum K rfl) rfl T.b_sum (by decide +kernel) (pa_cons (pe_lc rfl nd (pi_range1 rfl T.b_range (pa_cons (pe_op op_add (pv 0) pe_int) pa_nil)) (blkOk_by (own := [("_law_k", 3)]) (N := ["_law_places", "_law_many", "_law_found", "_law_k"]) (sc := defScope s_law_flats_of) (by decide +kernel)) (fun _ _ _ _ _ => (pg_name (i := 3) nd rfl (Or.inl rfl))) (fun _ _ _ _ _ => pts_nil) (fun _ _ _ _ _ => (pe_c C_law_choices hr (by decide) rfl (pa_cons (pv 1) (pa_cons (pv 3) pa_nil))))) pa_nil)))
      (pss_one (ps_ret (pe_op op_add (pv 2) (pe_callTy call_int1 rfl T.b_int (by decide +kernel) (pa_cons (pe_cmpR op_gt (pv 1) (pv 0) (nomark _)) pa_nil)))))), ?_⟩
  refine ⟨_, rfl, _, _, rfl, rfl, ((k : Int) + 1), rfl, by omega, by omega, fun F hF => lc_data (List.range (k + 1)) (fun _ => true) IsI (fun i => chs (n : Int) i) (Y := YFn fun i => .int (0 + i)) (G := fun _ => True) (by have z := walk_range (lo := 0) (n := ((k : Int) + 1).toNat); rw [show ((k : Int) + 1).toNat = (List.range (k + 1)).length by rw [List.length_range]; omega] at z ⊢; exact z) tst_I (by rw [List.length_range]; omega) hF (fun H e => trivial) (fun i x H H' h => h.1 ▸ Ex.refl H) (fun j i y H9 H5 hi e5 hy Ky Kn k1 k2 => ?_) (fun H5 e5 hLs => ?_)⟩
  · obtain ⟨rfl, rfl⟩ := hy
    have hj : j < k + 1 := by
      have := (List.getElem?_eq_some_iff.mp hi).1
      rw [List.length_range] at this
      exact this
    rw [List.getElem?_range hj] at hi
    obtain rfl := Option.some.inj hi
    have ez : (fun i : Nat => V.int (0 + (i : Int))) j = .int j := by show V.int (0 + (j : Int)) = _; rw [Int.zero_add]
    rw [ez]
    refine ⟨rfl, _, rfl, _, rfl, (n : Int), j, rfl, by omega, by omega, by omega, k1 rfl _ _ (Ex.refl _) rfl⟩
  · rw [filter_all] at hLs
    have hF5 := ls_I hLs
    refine ⟨F, _, rfl, SqL.of hF5, ?_⟩
    refine ⟨_, rfl, _, rfl, _, rfl, _, _, rfl, rfl, .inr ⟨_, rfl, _, _, rfl, rfl, ?_⟩⟩
    have e : flatsOf k n = ((List.range (k + 1)).map fun i => chs (n : Int) i).sum + (if decide ((k : Int) < (n : Int)) = true then 1 else 0) := by
      unfold flatsOf chSum
      by_cases q : k < n
      · rw [if_pos q, if_pos (by rw [decide_eq_true_eq]; omega)]
      · rw [if_neg q, if_neg (by rw [decide_eq_true_eq]; omega)]
    have z := hQ H5 e5
    rw [e] at z
    exact z
theorem sc_law_same : FnScope ["_law_found", "_law_due", "_law_left", "_law_right"] ["_law_found", "_law_due"] (defScope s_law_same) := C8.fnScope_by (by decide +kernel)
theorem cal_law_same (T : Txt mg) (D : Dfn K mg "_law_same" s_law_same ["_law_found", "_law_due"] []) : Cal P w K mg base (1) "_law_same" (spSameI) [] := by
  have nd := sc_law_same.nd
  refine D.cal sc_law_same (fun vs H Q E h => by obtain ⟨i, j, rfl, hQ⟩ := h; rfl) (fun f cdv A outer s H vs Q E hr h => ?_)
  obtain ⟨i, j, rfl, hQ⟩ := h
  refine ⟨_, (pss_cons (ps_if (pt_val (pe_callB (kisiT K) rfl T.b_isinstance (by decide +kernel) (pa_cons (pv 1) (pa_cons (pe_tup (pa_cons (pe_bltn (v := .ty "list") rfl T.b_list (by decide +kernel) rfl) (pa_cons (pe_bltn (v := .ty "tuple") rfl T.b_tuple (by decide +kernel) rfl) pa_nil))) pa_nil)))) (pss_cons (ps_if (pt_never) (pss_one (ps_ret pe_bl)) pss_nil)
      (pss_one (ps_ret (pe_never)))) pss_nil)
      (pss_cons (ps_if (pt_val (pe_callB (kisiT K) rfl T.b_isinstance (by decide +kernel) (pa_cons (pv 1) (pa_cons (pe_tup (pa_cons (pe_bltn (v := .ty "bool") rfl T.b_bool (by decide +kernel) rfl) (pa_cons (pe_bltn (v := .ty "int") rfl T.b_int (by decide +kernel) rfl) pa_nil))) pa_nil)))) (pss_one (ps_ret (pe_and (pe_callB (kisi K) rfl T.b_isinstance (by decide +kernel) (pa_cons (pv 0) (pa_cons (pe_bltn (v := .ty "int") rfl T.b_int (by decide +kernel) rfl) pa_nil))) (pe_and (pe_cmpR op_eq (pe_callB (kisi K) rfl T.b_isinstance (by decide +kernel) (pa_cons (pv 0) (pa_cons (pe_bltn (v := .ty "bool") rfl T.b_bool (by decide +kernel) rfl) pa_nil))) (pe_callB (kisi K) rfl T.b_isinstance (by decide +kernel) (pa_cons (pv 1) (pa_cons (pe_bltn (v := .ty "bool") rfl T.b_bool (by decide +kernel) rfl) pa_nil))) (nomark _)) (pe_one (pe_cmpR op_eq (pv 0) (pv 1) (nomark _))))))) pss_nil)
      (pss_one (ps_ret (pe_never))))), ?_⟩
  have no2 : PySem.W.kitAny K (.type "int") [.type "list", .type "tuple"] = some false := by
    refine kitAny_cons (b := false) (kit_ty (by decide +kernel)) (fun _ => kitAny_cons (b := false) (kit_ty (by decide +kernel)) (fun _ => rfl) (fun h => by cases h)) (fun h => by cases h)
  have yes2 : PySem.W.kitAny K (.type "int") [.type "bool", .type "int"] = some true := by
    refine kitAny_cons (b := false) (kit_ty (by decide +kernel)) (fun _ => kitAny_cons (b := true) (kit_ty (by decide +kernel)) (fun h => by cases h) (fun _ => rfl)) (fun h => by cases h)
  refine ⟨_, rfl, by show 2 ≤ sizeLine; decide, fun p hp => ⟨_, p, _, .type "int", [.type "list", .type "tuple"], false, rfl, upd_same, .cons (.ty _) (.cons (.ty _) .nil), .base (.int _), no2, ?_⟩⟩
  refine ⟨_, rfl, iteF ?_⟩
  have e1 := Ex.new (o := .tup [.ty "list", .ty "tuple"]) hp
  generalize upd H p (.tup [.ty "list", .ty "tuple"]) = H1 at e1 ⊢
  refine ⟨_, rfl, by show 2 ≤ sizeLine; decide, fun p2 hp2 => ⟨_, p2, _, .type "int", [.type "bool", .type "int"], true, rfl, upd_same, .cons (.ty _) (.cons (.ty _) .nil), .base (.int _), yes2, ?_⟩⟩
  have e2 := e1.trans (Ex.new (o := .tup [.ty "bool", .ty "int"]) hp2)
  refine ⟨_, rfl, iteT ?_⟩
  generalize upd H1 p2 (.tup [.ty "bool", .ty "int"]) = H2 at e2 ⊢
  refine ⟨_, rfl, _, _, _, _, _, rfl, .ty _, .base (.int _), isi_int_int, _, rfl, _, rfl, _, _, _, _, _, rfl, .ty _, .base (.int _), isi_int_bool, ?_⟩
  refine ⟨_, rfl, _, _, _, _, _, rfl, .ty _, .base (.int _), isi_int_bool, rfl, _, rfl, _, rfl, _, rfl, rfl, ?_⟩
  have e : decide (V.int i = V.int j) = decide (i = j) := by
    rw [Bool.eq_iff_iff, decide_eq_true_iff, decide_eq_true_iff]
    exact ⟨fun h => V.int.inj h, fun h => congrArg V.int h⟩
  rw [e]
  exact hQ H2 e2
namespace S2
theorem isi_lst_lst {K : PySem.W.Frag} : PySem.W.kitOne K (.type "list") (.type "list") = some true := kit_ty (by decide +kernel)
theorem isi_lst_tup {K : PySem.W.Frag} : PySem.W.kitOne K (.type "list") (.type "tuple") = some false := kit_ty (by decide +kernel)
theorem all_eq : ∀ {xs ys : List Int}, xs.length = ys.length → ((xs.zip ys).map fun d => decide (d.1 = d.2)).all id = decide (xs = ys)
  | [], [], _ => rfl
  | x :: xs, y :: ys, h => by
    have ih := all_eq (xs := xs) (ys := ys) (by simpa using h)
    rw [List.zip_cons_cons, List.map_cons, List.all_cons, ih, Bool.eq_iff_iff, Bool.and_eq_true, decide_eq_true_iff]
    simp
theorem sc_law_same : FnScope ["_law_found", "_law_due", "_law_left", "_law_right"] ["_law_found", "_law_due"] (defScope s_law_same) := C8.fnScope_by (by decide +kernel)
theorem cal_law_same (T : Txt mg) (D : Dfn K mg "_law_same" s_law_same ["_law_found", "_law_due"] [])
    (C_law_same : Cal P w K mg base 1 "_law_same" spSameI []) : Cal P w K mg base (2) "_law_same" (spSameL) [] := by
  have nd := sc_law_same.nd
  refine D.cal sc_law_same (fun vs H Q E h => by obtain ⟨a, b, xs, ys, rfl, ha, hb, hn, hQ⟩ := h; rfl) (fun f cdv A outer s H vs Q E hr h => ?_)
  obtain ⟨a, b, xs, ys, rfl, ha, hb, hn, hQ⟩ := h
  refine ⟨_, (pss_cons (ps_if (pt_val (pe_callB (kisiT K) rfl T.b_isinstance (by decide +kernel) (pa_cons (pv 1) (pa_cons (pe_tup (pa_cons (pe_bltn (v := .ty "list") rfl T.b_list (by decide +kernel) rfl) (pa_cons (pe_bltn (v := .ty "tuple") rfl T.b_tuple (by decide +kernel) rfl) pa_nil))) pa_nil)))) (pss_cons (ps_if (PW.pt (pw_or (pt_cmpR op_ne (pe_callB (kisi K) rfl T.b_isinstance (by decide +kernel) (pa_cons (pv 0) (pa_cons (pe_bltn (v := .ty "list") rfl T.b_list (by decide +kernel) rfl) pa_nil))) (pe_callB (kisi K) rfl T.b_isinstance (by decide +kernel) (pa_cons (pv 1) (pa_cons (pe_bltn (v := .ty "list") rfl T.b_list (by decide +kernel) rfl) pa_nil))) (nomark _)) (pw_or1 (pt_cmpR op_ne (pe_callB (kisi K) rfl T.b_isinstance (by decide +kernel) (pa_cons (pv 0) (pa_cons (pe_bltn (v := .ty "tuple") rfl T.b_tuple (by decide +kernel) rfl) pa_nil))) (pe_callB (kisi K) rfl T.b_isinstance (by decide +kernel) (pa_cons (pv 1) (pa_cons (pe_bltn (v := .ty "tuple") rfl T.b_tuple (by decide +kernel) rfl) pa_nil))) (nomark _))))) (pss_one (ps_ret pe_bl)) pss_nil)
      (pss_one (ps_ret (pe_and (pe_cmpR op_eq (pe_callB (klen K) rfl T.b_len PySem.boot_len (pa_cons (pv 0) pa_nil)) (pe_callB (klen K) rfl T.b_len PySem.boot_len (pa_cons (pv 1) pa_nil)) (nomark _)) (pe_one (pe_callB (kall K rfl) rfl T.b_all (by decide +kernel) (pa_cons (pe_lc rfl nd (kpi_zip K rfl T.b_zip (pa_cons (pv 0) (pa_cons (pv 1) pa_nil))) (blkOk_by (own := [("_law_left", 2), ("_law_right", 3)]) (N := ["_law_found", "_law_due", "_law_left", "_law_right"]) (sc := defScope s_law_same) (by decide +kernel)) (fun _ _ _ _ _ => (kpg_tup K 2 rfl (pgs_cons (pg_name (i := 2) nd rfl (Or.inl rfl)) (pgs_cons (pg_name (i := 3) nd rfl (Or.inl rfl)) pgs_nil)))) (fun _ _ _ _ _ => pts_nil) (fun _ _ _ _ _ => (pe_c C_law_same hr (by decide) rfl (pa_cons (pv 2) (pa_cons (pv 3) pa_nil))))) pa_nil))))))) pss_nil)
      (pss_cons (ps_if (pt_never) (pss_one (ps_ret (pe_never))) pss_nil)
      (pss_one (ps_ret (pe_never))))), ?_⟩
  refine ⟨_, rfl, by show 2 ≤ sizeLine; decide, fun p hp => ?_⟩
  have e1 := Ex.new (o := .tup [.ty "list", .ty "tuple"]) hp
  obtain ⟨t, h1, h2⟩ := isi_seq (K := K) (a := b) (.inl ⟨_, e1 _ _ hb⟩)
  refine ⟨_, p, _, t, [.type "list", .type "tuple"], true, rfl, upd_same, .cons (.ty _) (.cons (.ty _) .nil), h1, h2, ?_⟩
  refine ⟨_, rfl, iteT ?_⟩
  have ha1 := e1 _ _ ha
  have hb1 := e1 _ _ hb
  generalize upd H p (.tup [.ty "list", .ty "tuple"]) = H1 at e1 ha1 hb1 ⊢
  refine ⟨_, rfl, _, _, _, _, _, rfl, .ty _, .base (.lst ha1), isi_lst_lst, _, rfl, _, _, _, _, _, rfl, .ty _, .base (.lst hb1), isi_lst_lst, rfl, _, rfl, iteF ?_⟩
  refine ⟨_, rfl, _, _, _, _, _, rfl, .ty _, .base (.lst ha1), isi_lst_tup, _, rfl, _, _, _, _, _, rfl, .ty _, .base (.lst hb1), isi_lst_tup, rfl, _, rfl, iteF ?_⟩
  refine ⟨_, rfl, a, _, rfl, .inl (SqL.of ha1), _, rfl, b, _, rfl, .inl (SqL.of hb1), rfl, ?_⟩
  by_cases hl : xs.length = ys.length
  · refine ⟨true, congrArg V.bl (decide_eq_true (congrArg V.int (by rw [List.length_map, List.length_map, hl]))), iteT ?_⟩
    refine ⟨_, rfl, _, rfl, a, b, _, _, rfl, SqL.of ha1, SqL.of hb1, fun F hF => lc_data (xs.zip ys) (fun _ => true) IsBl (fun d => decide (d.1 = d.2)) (Y := YPair (fun i => (xs.map V.int)[i]?) (fun i => (ys.map V.int)[i]?)) (G := fun H => SqL K H a (xs.map V.int) ∧ SqL K H b (ys.map V.int)) (walk_zip (by simp)) tst_Bl (by rw [List.length_zip]; omega) hF (fun H e => ⟨SqL.of (e _ _ ha1), SqL.of (e _ _ hb1)⟩) (fun i x H H' h => by obtain ⟨T1, y1, y2, _, hT, rfl, _⟩ := h; exact Ex.new hT) (fun j d z H9 H5 hd e5 hz Ky Kn k1 k2 => ?_) (fun H5 e5 hLs => ?_)⟩
    · obtain ⟨T1, y1, y2, rfl, hT, rfl, q1, q2⟩ := hz
      have q1 : (xs.map V.int)[j]? = some y1 := q1
      have q2 : (ys.map V.int)[j]? = some y2 := q2
      obtain ⟨g1, g2⟩ := List.getElem?_zip_eq_some.mp hd
      rw [List.getElem?_map, g1] at q1
      rw [List.getElem?_map, g2] at q2
      obtain rfl := Option.some.inj q1
      obtain rfl := Option.some.inj q2
      have eT := Ex.new (o := .tup [.int d.1, .int d.2]) hT
      refine ⟨T1, _, rfl, SqT.of upd_same, rfl, _, _, rfl, _, _, rfl, rfl, rfl, ?_⟩
      exact ⟨_, rfl, _, rfl, d.1, d.2, rfl, fun H6 e6 => k1 rfl _ _ e6 rfl⟩
    · rw [filter_all] at hLs
      refine ⟨F, _, rfl, SqL.of (ls_Bl hLs), ?_⟩
      rw [all_eq hl]
      exact hQ H5 (e1.trans e5)
  · have hne : decide (xs = ys) = false := decide_eq_false fun h => hl (by rw [h])
    refine ⟨false, congrArg V.bl (decide_eq_false fun h => hl (by have := V.int.inj h; rw [List.length_map, List.length_map] at this; omega)), iteF ?_⟩
    have z := hQ H1 e1
    rw [hne] at z
    exact z
end S2
end
end K49

namespace K49
open PySem PySem.Spec PyProof.Rows L2 LamX
open C8 (Cal Met Mak pe_c pe_mk pe_mt pe_mt0 pe_gc)
open Evl (Ex)
def crv (p : Nat) (ts : List Int) : List (List Int) := ts.map (curve p)
def rowP (p : Nat) (ts : List Int) : List (List Int) := ts.map fun t => List.replicate p t
def aptP (p : Nat) (ts : List Int) : List (List Int) := ts.map fun t => [t, 0 - t] ++ List.replicate (p - 2) 3
def lineP (ts : List Int) : List (List Int) := ts.map fun t => [t]
noncomputable abbrev LB (κ : Kd) (ps : List (List Int)) : List (List Bool) := labsOf FitsC κ ps
noncomputable abbrev DM (κ : Kd) (ps : List (List Int)) : Nat := ((shatOf FitsC κ ps).getLast?.getD []).length
/-- the plain law -/
structure PLaw : Prop where
  halves : ∀ (p n : Nat) (ts : List Int), 1 ≤ p → p ≤ 3 → n ≤ 5 → RsOk n ts → ((LB (.halves p) (crv p ts)).length : Int) = halvesOf p n ∧ shatOf FitsC (.halves p) (crv p ts) ≠ [] ∧ DM (.halves p) (crv p ts) = min n (p + 1)
  flats : ∀ (p n : Nat) (ts : List Int), 1 ≤ p → p ≤ 3 → n ≤ 5 → RsOk n ts → ((LB (.flats p) (crv p ts)).length : Int) = flatsOf p n
  row : ∀ (p n d u : Nat) (ts : List Int), 1 ≤ p → p ≤ 3 → n ≤ 5 → RsOk n ts → Halv (n + 1) d u → (LB (.rising p) (rowP p ts)).length = n + 1 ∧ cost n (LB (.rising p) (rowP p ts)) = u ∧ dep n (LB (.rising p) (rowP p ts)) = d ∧ shatOf FitsC (.rising p) (rowP p ts) ≠ [] ∧
    DM (.rising p) (rowP p ts) = (if 0 < n then 1 else 0) ∧ ((LB (.boxes p) (rowP p ts)).length : Int) = (n : Int) * ((n : Int) + 1) / 2 + 1
  apart : ∀ (p n : Nat) (ts : List Int), 2 ≤ p → p ≤ 3 → n ≤ 5 → RsOk n ts → (LB (.rising p) (aptP p ts)).length = 2 ^ n ∧ shatOf FitsC (.rising p) (aptP p ts) ≠ [] ∧ DM (.rising p) (aptP p ts) = n ∧ cost n (LB (.rising p) (aptP p ts)) = n ∧ dep n (LB (.rising p) (aptP p ts)) = n ∧
    (∀ l ∈ LB (.rising p) (aptP p ts), firsts (LB (.rising p) (aptP p ts)) l ≠ []) ∧ (∀ l ∈ LB (.rising p) (aptP p ts), (firstOf (LB (.rising p) (aptP p ts)) l).length = n) ∧ ((LB (.boxes p) (aptP p ts)).length : Int) = (n : Int) * ((n : Int) + 1) / 2 + 1
  turns : ∀ (m n : Nat) (ts : List Int), m ≤ 6 → n ≤ 5 → RsOk n ts → ((LB (.turns m) (lineP ts)).length : Int) = halvesOf m n ∧ shatOf FitsC (.turns m) (lineP ts) ≠ [] ∧ DM (.turns m) (lineP ts) = min n (m + 1)
theorem made_ex {H H2 : Hp} {x dx C : Addr} (hx0 : H x = none) (hdx : H dx = none) (hne : dx ≠ x) (hk : ∀ b o, (upd (upd H dx (.own x)) x (.ins C dx [])) b = some o → b ≠ x → H2 b = some o) : Ex H H2 := fun b o hb => by
  have nb := ne_of_none hb hx0
  exact hk b o (by rw [upd_ne nb, upd_ne (ne_of_none hb hdx)]; exact hb) nb
theorem ask_of {κ : Kd} {ps : List (List Int)} (h5 : ps.length ≤ 5) (h1 : 1 ≤ κ.places) (h3 : κ.places ≤ 3) (hp : ∀ p ∈ ps, p.length = κ.places ∧ RowB 7 p) (hm : ∀ m, κ = .turns m → m ≤ 6) : ∀ ls : List Bool, AskC κ (ps.zip ls) := fun ls =>
  ⟨Nat.le_trans (by rw [List.length_zip]; exact Nat.min_le_left _ _) h5, h1, h3, fun d hd => hp _ (List.of_mem_zip hd).1, hm⟩
theorem pts_of {k : Nat} {ps : List (List Int)} (h5 : ps.length ≤ 5) (h3 : k ≤ 3) (hp : ∀ p ∈ ps, p.length = k) (nd : ps.Nodup) : Pts (k : Int) ps := ⟨by omega, fun p h => by rw [hp p h], nd, by omega⟩
theorem nodup_map {α β : Type} {f : α → β} (hf : ∀ a b, f a = f b → a = b) {l : List α} (h : l.Nodup) : (l.map f).Nodup := by
  induction l with
  | nil => exact List.nodup_nil
  | cons a r ih =>
    rw [List.nodup_cons] at h
    rw [List.map_cons, List.nodup_cons]
    refine ⟨fun hm => h.1 ?_, ih h.2⟩
    obtain ⟨b, hb, e⟩ := List.mem_map.mp hm
    rw [← hf _ _ e]
    exact hb
theorem bnd_small {t : Int} (h : -100 ≤ t ∧ t ≤ 100) : Bnd 7 t := by
  unfold Bnd
  omega
theorem tabs_exd {T : List (Addr × Str)} {H H' : Hp} {d : Addr} {xs : List V} (t : Tabs T H) (e : ExD d H H') (hd : H d = some (.lst xs)) : Tabs T H' := fun x hx => by
  obtain ⟨ps, h1, h2, h3⟩ := t x hx
  refine ⟨ps, e _ _ h1 (ne_of h1 hd (fun z => by cases z)), h2, fun pos cv hc => ?_⟩
  obtain ⟨c, e1, e2⟩ := h3 pos cv hc
  exact ⟨c, e1, e _ _ e2 (ne_of e2 hd (fun z => by unfold CodeO at z; cases z))⟩
theorem Drw.at {H : Hp} {d : Addr} {n : Nat} (h : Drw H d n) : ∃ xs, H d = some (.lst xs) := by
  obtain ⟨a, b, c, h1, _⟩ := h
  exact ⟨_, h1⟩
theorem Drw.exn {H H' : Hp} {d : Addr} {n : Nat} (h : Drw H d n) (e : ExtN H H') : Drw H' d n := by
  obtain ⟨a, b, c, h1, h2⟩ := h
  exact ⟨a, b, c, e _ _ h1 (fun _ z => by cases z), h2⟩
theorem ExM.ofD {d : Addr} {H H' : Hp} (e : ExD d H H') : ExM d H H' := fun b o h _ n => e b o h n
abbrev TQ (Pt : Addr) : List (Addr × Str) := [(Pt, lamQ)]
/-- a part of the law: so many draws more -/
def spTurnsRight (Pt : Addr) : Sp := fun vs H Q _ => ∃ (d : Addr) (n m : Nat), vs = [.ref d, .int n] ∧ n ≤ 5 ∧ Drw H d m ∧ m + 20 ≤ 1000 ∧ Tabs (TQ Pt) H ∧ ∀ H', ExM d H H' → Drw H' d (m + 20) → Tabs (TQ Pt) H' → Q (.bl true) H'
section
variable {P : Program} {w : World} {K : PySem.W.Frag} {mg : Str → Option Value} {base : Heap}
theorem isP_one {H : Hp} {b : Addr} {t : Int} (h : H b = some (.tup [.int t])) : IsP H (.ref b) [t] := ⟨b, rfl, h⟩
theorem sc_law_turns_right : FnScope ["_law_draws", "_law_many", "_law_due", "_law_found", "_law_most", "_law_row", "_law_at", "_law_k"] ["_law_draws", "_law_many"] (defScope s_law_turns_right) := C8.fnScope_by (by decide +kernel)
theorem cal_law_turns_right (T : Txt mg) (D : Dfn K mg "_law_turns_right" s_law_turns_right ["_law_draws", "_law_many"] [])
    {c : Cls5} {Pt : Addr} (PL : PLaw) (C_law_draw : Cal P w K mg base 1 "_law_draw" spDraw []) (C_law_rises : Cal P w K mg base 3 "_law_rises" spRises []) (C_law_choices : Cal P w K mg base 1 "_law_choices" spChoices [])
    (C_labelings : Cal P w K mg base 9 "labelings" (spLabelings c AskC FitsC) []) (C_dimension : Cal P w K mg base 11 "dimension" (spDimension c AskC FitsC) []) (K_Turns : Mak P w K mg base 4 "Turns" c.turns (spTurnsInit c.turns) []) (C_law_same : Cal P w K mg base 2 "_law_same" spSameL []) : Cal P w K mg base (12) "_law_turns_right" (spTurnsRight Pt) [] := by
  have nd := sc_law_turns_right.nd
  refine D.cal sc_law_turns_right (fun vs H Q E h => by obtain ⟨d, n, m, rfl, hn, hD, hm, hT, hQ⟩ := h; rfl) (fun f cdv A outer s H vs Q E hr h => ?_)
  obtain ⟨d, n, m, rfl, hn, hD, hm, hT, hQ⟩ := h
  refine ⟨_, (pss_cons (ps_par (i := 4) (j := 5) rfl nd rfl rfl (by decide) rfl rfl (pa_cons (pe_c C_law_draw hr (by decide) rfl (pa_cons (pv 0) (pa_cons pe_int pa_nil))) (pa_cons (pe_lc rfl nd (kpi_list K (pe_c C_law_rises hr (by decide) rfl (pa_cons (pv 0) (pa_cons (pv 1) pa_nil)))) (blkOk_by (own := [("_law_at", 6)]) (N := ["_law_draws", "_law_many", "_law_due", "_law_found", "_law_most", "_law_row", "_law_at", "_law_k"]) (sc := defScope s_law_turns_right) (by decide +kernel)) (fun _ _ _ _ _ => (pg_name (i := 6) nd rfl (Or.inl rfl))) (fun _ _ _ _ _ => pts_nil) (fun _ _ _ _ _ => (pe_tup (pa_cons (pv 6) pa_nil)))) pa_nil)) rfl)
      (pss_cons (ps_set (i := 2) nd rfl (Or.inl rfl) (pe_ifExp (pt_cmpR op_gt (pv 1) pe_int (nomark _)) (pe_op op_mul pe_int (pe_callB (ksum K rfl) rfl T.b_sum (by decide +kernel) (pa_cons (pe_lc rfl nd (pi_range1 rfl T.b_range (pa_cons (pe_op op_add (pv 4) pe_int) pa_nil)) (blkOk_by (own := [("_law_k", 7)]) (N := ["_law_draws", "_law_many", "_law_due", "_law_found", "_law_most", "_law_row", "_law_at", "_law_k"]) (sc := defScope s_law_turns_right) (by decide +kernel)) (fun _ _ _ _ _ => (pg_name (i := 7) nd rfl (Or.inl rfl))) (fun _ _ _ _ _ => pts_nil) (fun _ _ _ _ _ => (pe_c C_law_choices hr (by decide) rfl (pa_cons (pe_op op_sub (pv 1) pe_int) (pa_cons (pv 7) pa_nil))))) pa_nil))) pe_int))
      (pss_cons (ps_set (i := 3) nd rfl (Or.inl rfl) (pe_lst (pa_cons (pe_callB (klen K) rfl T.b_len PySem.boot_len (pa_cons (pe_c C_labelings hr (by decide) rfl (pa_cons (pe_mk K_Turns hr (by decide) rfl (pa_cons (pv 4) pa_nil)) (pa_cons (pv 5) pa_nil))) pa_nil)) (pa_cons (pe_c C_dimension hr (by decide) rfl (pa_cons (pe_mk K_Turns hr (by decide) rfl (pa_cons (pv 4) pa_nil)) (pa_cons (pv 5) pa_nil))) pa_nil))))
      (pss_one (ps_ret (pe_c C_law_same hr (by decide) rfl (pa_cons (pv 3) (pa_cons (pe_lst (pa_cons (pv 2) (pa_cons (pe_callB (call_min2 rfl) rfl T.b_min (by decide +kernel) (pa_cons (pv 1) (pa_cons (pe_op op_add (pv 4) pe_int) pa_nil))) pa_nil))) pa_nil)))))))), ?_⟩
  refine ⟨_, rfl, d, 7, m, rfl, by decide, by decide, hD, by omega, fun mo H1 mo0 mo7 e1 hD1 => ?_⟩
  obtain ⟨mo, rfl⟩ := Int.eq_ofNat_of_zero_le mo0
  have hmo : mo ≤ 6 := by omega
  refine ⟨_, rfl, _, rfl, d, n, m + 1, rfl, by omega, hD1, by omega, fun q ts H2 hq e2 hq2 hts hD2 => ?_⟩
  obtain ⟨dl, hdl⟩ := hD.at
  obtain ⟨dl1, hdl1⟩ := hD1.at
  have hT2 := tabs_exd (tabs_exd hT e1 hdl) e2 hdl1
  have e02 : ExD d H H2 := e1.trans e2
  have htl := hts.len
  refine ⟨q, rfl, ⟨_, SqL.of hq2⟩, fun D hDn => lc_data ts (fun _ => true) IsP (fun t => [t]) (Y := YAt (ts.map V.int)) (G := fun H => SqL K H q (ts.map V.int)) (by have z := walk_list (K := K) (a := q) (xs := ts.map V.int); rw [List.length_map] at z; exact z) tst_P (by omega) hDn (fun H e => SqL.of (e _ _ hq2)) (fun i x H H' h => h.1 ▸ Ex.refl H) (fun i t x H H' ht e hy Ky Kn k1 k2 => ?_) (fun H3 e3 hL3 => ?_)⟩
  · obtain ⟨rfl, hx⟩ := hy
    rw [List.getElem?_map, ht] at hx
    obtain rfl := Option.some.inj hx
    exact ⟨rfl, _, rfl, by show 1 ≤ sizeLine; decide, fun T hT => k1 rfl _ _ (Ex.new hT) (isP_one upd_same)⟩
  · rw [filter_all] at hL3
    have hL3 : Ls IsP H3 D (lineP ts) := hL3
    obtain ⟨pl1, pl2, pl3⟩ := PL.turns mo n ts hmo hn hts
    have lps : ∀ p ∈ lineP ts, p.length = 1 ∧ RowB 7 p := fun p hp => by
      obtain ⟨t, ht, rfl⟩ := List.mem_map.mp hp
      refine ⟨rfl, fun x hx => ?_⟩
      rw [List.mem_singleton.mp hx]
      have := hts.rg t ht
      exact bnd_small (by omega)
    have hl5 : (lineP ts).length ≤ 5 := by unfold lineP; rw [List.length_map]; omega
    have pts : Pts ((1 : Nat) : Int) (lineP ts) := pts_of hl5 (by decide) (fun p hp => (lps p hp).1) (nodup_map (fun a b e => by simpa using e) hts.nd)
    have ask : ∀ ls : List Bool, AskC (.turns mo) ((lineP ts).zip ls) := ask_of hl5 (by show 1 ≤ 1; decide) (by show 1 ≤ 3; decide) lps (fun m e => by injection e with e; omega)
    have hll : (lineP ts).length = n := by unfold lineP; rw [List.length_map]; exact htl
    refine ⟨_, _, rfl, _, rfl, _, _, rfl, rfl, _, rfl, ?_⟩
    refine iteB (b := decide ((0 : Int) < (n : Int))) (fun h => ?_) (fun h => ?_)
    · have h := of_decide_eq_true h
      refine ⟨_, rfl, _, _, rfl, rfl, ((mo : Int) + 1), rfl, by omega, by omega, fun F hF => lc_data (List.range (mo + 1)) (fun _ => true) IsI (fun i => chs ((n : Int) - 1) i) (Y := YFn fun i => .int (0 + i)) (G := fun _ => True) (by have z := walk_range (lo := 0) (n := ((mo : Int) + 1).toNat); rw [show ((mo : Int) + 1).toNat = (List.range (mo + 1)).length by rw [List.length_range]; omega] at z ⊢; exact z) tst_I (by rw [List.length_range]; omega) hF (fun H e => trivial) (fun i x H H' h => h.1 ▸ Ex.refl H) (fun j i y H9 H5 hi e5 hy Ky Kn k1 k2 => ?_) (fun H4 e4 hLs => ?_)⟩
      · obtain ⟨rfl, rfl⟩ := hy
        have hj : j < mo + 1 := by
          have := (List.getElem?_eq_some_iff.mp hi).1
          rw [List.length_range] at this
          exact this
        rw [List.getElem?_range hj] at hi
        obtain rfl := Option.some.inj hi
        have ez : (fun i : Nat => V.int (0 + (i : Int))) j = .int j := by show V.int (0 + (j : Int)) = _; rw [Int.zero_add]
        rw [ez]
        refine ⟨rfl, _, rfl, _, _, rfl, rfl, _, rfl, (n : Int) - 1, j, rfl, by omega, by omega, by omega, k1 rfl _ _ (Ex.refl _) rfl⟩
      · rw [filter_all] at hLs
        have hF5 := ls_I hLs
        refine ⟨F, _, rfl, SqL.of hF5, _, _, rfl, rfl, .inl (by decide), ?_⟩
        have he : halvesOf mo n = 2 * ((List.range (mo + 1)).map fun i => chs ((n : Int) - 1) i).sum := by
          unfold halvesOf chSum
          rw [if_pos (by omega)]
        have L4 := hL3.mono tst_P.sst e4
        refine ⟨_, rfl, fun x dx hx0 hdx hne => ⟨x, dx, (mo : Int), rfl, upd_same, by omega, by omega, fun H5 hk hx5 => ⟨rfl, ?_⟩⟩⟩
        have e5 := made_ex hx0 hdx hne hk
        have kat5 : KindAt c H5 x (.turns mo) := ⟨dx, _, hx5, rfl, rfl, rfl⟩
        have L5 := L4.mono tst_P.sst e5
        refine ⟨_, rfl, x, D, .turns mo, lineP ts, rfl, kat5, by show 1 ≤ 1; decide, by show 1 ≤ 3; decide, L5, pts, by omega, ask, fun p H6 hp e6 hL6 => ?_⟩
        obtain ⟨zs, hp6, hzs⟩ := hL6
        have hzl := hzs.length
        refine ⟨p, zs, rfl, .inl (SqL.of hp6), ?_⟩
        have L6 := L5.mono tst_P.sst e6
        refine ⟨_, rfl, fun x2 dx2 hx20 hdx2 hne2 => ⟨x2, dx2, (mo : Int), rfl, upd_same, by omega, by omega, fun H7 hk7 hx7 => ⟨rfl, ?_⟩⟩⟩
        have e7 := made_ex hx20 hdx2 hne2 hk7
        have kat7 : KindAt c H7 x2 (.turns mo) := ⟨dx2, _, hx7, rfl, rfl, rfl⟩
        have L7 := L6.mono tst_P.sst e7
        refine ⟨_, rfl, x2, D, .turns mo, lineP ts, rfl, kat7, by show 1 ≤ 1; decide, by show 1 ≤ 3; decide, L7, pts, by omega, ask, pl2, fun H8 e8 => ?_⟩
        refine ⟨by show 2 ≤ sizeLine; decide, fun F hF => ?_⟩
        have eF := Ex.new (o := .lst [.int (zs.length : Int), .int (DM (.turns mo) (lineP ts) : Int)]) hF
        refine ⟨_, rfl, _, rfl, _, rfl, _, rfl, _, _, rfl, rfl, _, _, rfl, by show 2 ≤ sizeLine; decide, fun G hG => ?_⟩
        have eG := Ex.new (o := .lst [.int (2 * ((List.range (mo + 1)).map fun i => chs ((n : Int) - 1) i).sum), .int (if (mo : Int) + 1 < (n : Int) then (mo : Int) + 1 else (n : Int))]) hG
        refine ⟨F, G, [(zs.length : Int), (DM (.turns mo) (lineP ts) : Int)], [(2 * ((List.range (mo + 1)).map fun i => chs ((n : Int) - 1) i).sum), if (mo : Int) + 1 < (n : Int) then (mo : Int) + 1 else (n : Int)], rfl, eG _ _ upd_same, upd_same, by show 2 ≤ 100; decide, fun H9 e9 => ?_⟩
        have hdec : decide ([(zs.length : Int), (DM (.turns mo) (lineP ts) : Int)] = [(2 * ((List.range (mo + 1)).map fun i => chs ((n : Int) - 1) i).sum), if (mo : Int) + 1 < (n : Int) then (mo : Int) + 1 else (n : Int)]) = true := by
          rw [hzl, pl1, pl3, he]
          refine decide_eq_true ?_
          congr 2
          split <;> omega
        rw [hdec]
        have eA := ((((((e4.trans e5).trans e6).trans e7).trans e8).trans eF).trans eG).trans e9
        have eA3 := e3.trans eA
        exact hQ H9 ((ExM.ofD e02).trans (ExM.of eA3)) ((hD2.ex eA3).mono (by omega)) (hT2.ext eA3)
    · have h := of_decide_eq_false h
      have he : halvesOf mo n = 1 := by
        unfold halvesOf
        rw [if_neg (by omega)]
      have e4 := Ex.refl H3
      have L4 := hL3
      refine ⟨_, rfl, fun x dx hx0 hdx hne => ⟨x, dx, (mo : Int), rfl, upd_same, by omega, by omega, fun H5 hk hx5 => ⟨rfl, ?_⟩⟩⟩
      have e5 := made_ex hx0 hdx hne hk
      have kat5 : KindAt c H5 x (.turns mo) := ⟨dx, _, hx5, rfl, rfl, rfl⟩
      have L5 := L4.mono tst_P.sst e5
      refine ⟨_, rfl, x, D, .turns mo, lineP ts, rfl, kat5, by show 1 ≤ 1; decide, by show 1 ≤ 3; decide, L5, pts, by omega, ask, fun p H6 hp e6 hL6 => ?_⟩
      obtain ⟨zs, hp6, hzs⟩ := hL6
      have hzl := hzs.length
      refine ⟨p, zs, rfl, .inl (SqL.of hp6), ?_⟩
      have L6 := L5.mono tst_P.sst e6
      refine ⟨_, rfl, fun x2 dx2 hx20 hdx2 hne2 => ⟨x2, dx2, (mo : Int), rfl, upd_same, by omega, by omega, fun H7 hk7 hx7 => ⟨rfl, ?_⟩⟩⟩
      have e7 := made_ex hx20 hdx2 hne2 hk7
      have kat7 : KindAt c H7 x2 (.turns mo) := ⟨dx2, _, hx7, rfl, rfl, rfl⟩
      have L7 := L6.mono tst_P.sst e7
      refine ⟨_, rfl, x2, D, .turns mo, lineP ts, rfl, kat7, by show 1 ≤ 1; decide, by show 1 ≤ 3; decide, L7, pts, by omega, ask, pl2, fun H8 e8 => ?_⟩
      refine ⟨by show 2 ≤ sizeLine; decide, fun F hF => ?_⟩
      have eF := Ex.new (o := .lst [.int (zs.length : Int), .int (DM (.turns mo) (lineP ts) : Int)]) hF
      refine ⟨_, rfl, _, rfl, _, rfl, _, rfl, _, _, rfl, rfl, _, _, rfl, by show 2 ≤ sizeLine; decide, fun G hG => ?_⟩
      have eG := Ex.new (o := .lst [.int 1, .int (if (mo : Int) + 1 < (n : Int) then (mo : Int) + 1 else (n : Int))]) hG
      refine ⟨F, G, [(zs.length : Int), (DM (.turns mo) (lineP ts) : Int)], [1, if (mo : Int) + 1 < (n : Int) then (mo : Int) + 1 else (n : Int)], rfl, eG _ _ upd_same, upd_same, by show 2 ≤ 100; decide, fun H9 e9 => ?_⟩
      have hdec : decide ([(zs.length : Int), (DM (.turns mo) (lineP ts) : Int)] = [1, if (mo : Int) + 1 < (n : Int) then (mo : Int) + 1 else (n : Int)]) = true := by
        rw [hzl, pl1, pl3, he]
        refine decide_eq_true ?_
        congr 2
        split <;> omega
      rw [hdec]
      have eA := ((((((e4.trans e5).trans e6).trans e7).trans e8).trans eF).trans eG).trans e9
      have eA3 := e3.trans eA
      exact hQ H9 ((ExM.ofD e02).trans (ExM.of eA3)) ((hD2.ex eA3).mono (by omega)) (hT2.ext eA3)
end
end K49

namespace K49
open PySem PySem.Spec PyProof.Rows L2 LamX
open C8 (Cal Met Mak pe_c pe_mk pe_mt pe_mt0 pe_gc)
open Evl (Ex)
def spPart (Pt : Addr) (lo : Nat) : Sp := fun vs H Q _ => ∃ (d : Addr) (k n m : Nat), vs = [.ref d, .int k, .int n] ∧ lo ≤ k ∧ k ≤ 3 ∧ n ≤ 5 ∧ Drw H d m ∧ m + 20 ≤ 1000 ∧ Tabs (TQ Pt) H ∧ ∀ H', ExM d H H' → Drw H' d (m + 20) → Tabs (TQ Pt) H' → Q (.bl true) H'
theorem ExtN.of' {H H' : Hp} (e : Ex H H') : ExtN H H' := ExtN.of e
theorem ls_extn {β : Type} {R : Hp → V → β → Prop} (s : Tst R) {H H' : Hp} {a : Addr} {ds : List β} (e : ExtN H H') (h : Ls R H a ds) : Ls R H' a ds := by
  obtain ⟨xs, h1, h2⟩ := h
  exact ⟨xs, e _ _ h1 (fun _ z => by cases z), h2.tmono s fun b ys q => e _ _ q (fun _ z => by cases z)⟩
theorem kind_extn {c : Cls5} {H H' : Hp} {a : Addr} {κ : Kd} (e : ExtN H H') (h : KindAt c H a κ) : KindAt c H' a κ := by
  obtain ⟨dx, fs, h1, h2⟩ := h
  exact ⟨dx, fs, e _ _ h1 (fun _ z => by cases z), h2⟩
theorem apt_len {k : Nat} {ts : List Int} (hk : 2 ≤ k) : ∀ p ∈ aptP k ts, p.length = k := fun p hp => by
  obtain ⟨t, ht, rfl⟩ := List.mem_map.mp hp
  simp
  omega
section
variable {P : Program} {w : World} {K : PySem.W.Frag} {mg : Str → Option Value} {base : Heap}
theorem sc_law_apart_right : FnScope ["_law_draws", "_law_places", "_law_many", "_law_row", "_law_point", "_law_found", "_law_kind", "_law_all_of", "_law_at"] ["_law_draws", "_law_places", "_law_many"] (defScope s_law_apart_right) := C8.fnScope_by (by decide +kernel)
theorem cal_law_apart_right (T : Txt mg) (D : Dfn K mg "_law_apart_right" s_law_apart_right ["_law_draws", "_law_places", "_law_many"] [])
    {c : Cls5} {Pt : Addr} (PL : PLaw) (C_law_rises : Cal P w K mg base 3 "_law_rises" spRises []) (C_same_i : Cal P w K mg base 1 "_law_same" spSameI []) (C_law_same : Cal P w K mg base 2 "_law_same" spSameL [])
    (C_labelings : Cal P w K mg base 9 "labelings" (spLabelings c AskC FitsC) []) (C_dimension : Cal P w K mg base 11 "dimension" (spDimension c AskC FitsC) []) (C_asks : Cal P w K mg base 11 "asks" (spAsks c AskC FitsC (TQ Pt)) [.non]) (C_mistakes : Cal P w K mg base 10 "mistakes" (spMistakes c AskC FitsC) []) (C_teaching_number : Cal P w K mg base 10 "teaching_number" (spTeaching c AskC FitsC) [])
    (K_Rising : Mak P w K mg base 3 "Rising" c.rising (spKindInit c.rising) []) (K_Boxes : Mak P w K mg base 3 "Boxes" c.boxes (spKindInit c.boxes) []) : Cal P w K mg base (12) "_law_apart_right" (spPart Pt 2) [] := by
  have nd := sc_law_apart_right.nd
  refine D.cal sc_law_apart_right (fun vs H Q E h => by obtain ⟨d, k, n, m, rfl, hk2, hk3, hn, hD, hm, hT, hQ⟩ := h; rfl) (fun f cdv A outer s H vs Q E hr h => ?_)
  obtain ⟨d, k, n, m, rfl, hk2, hk3, hn, hD, hm, hT, hQ⟩ := h
  refine ⟨_, (pss_cons (ps_setLc (i := 3) rfl nd rfl rfl (sw_true rfl rfl rfl (by decide +kernel)) (kpi_list K (pe_c C_law_rises hr (by decide) rfl (pa_cons (pv 0) (pa_cons (pv 2) pa_nil)))) (blkOk_by (own := [("_law_at", 8)]) (N := ["_law_draws", "_law_places", "_law_many", "_law_row", "_law_point", "_law_found", "_law_kind", "_law_all_of", "_law_at"]) (sc := defScope s_law_apart_right) (by decide +kernel)) (fun _ _ _ _ _ => (pg_name (i := 8) nd rfl (Or.inl rfl))) (fun _ _ _ _ _ => pts_nil) (fun _ _ _ _ _ => (pe_op (kcat K) (pe_tup (pa_cons (pv 8) (pa_cons (pe_op op_sub pe_int (pv 8)) pa_nil))) (pe_op (op_repA K) (pe_tup (pa_cons pe_int pa_nil)) (pe_op op_sub (pv 1) pe_int)))))
      (pss_cons (ps_par (i := 6) (j := 7) rfl nd rfl rfl (by decide) rfl rfl (pa_cons (pe_mk K_Rising hr (by decide) rfl (pa_cons (pv 1) pa_nil)) (pa_cons pe_int pa_nil)) rfl)
      (pss_cons (ps_for PassesOwn.never rfl (kpi_list K (pv 3)) (pg_name (i := 4) nd rfl (Or.inl rfl)) (pss_one (ps_set (i := 7) nd rfl (Or.inl rfl) (pe_op op_mul pe_int (pv 7)))))
      (pss_cons (ps_set (i := 5) nd rfl (Or.inl rfl) (pe_lst (pa_cons (pe_callB (klen K) rfl T.b_len PySem.boot_len (pa_cons (pe_c C_labelings hr (by decide) rfl (pa_cons (pv 6) (pa_cons (pv 3) pa_nil))) pa_nil)) (pa_cons (pe_c C_dimension hr (by decide) rfl (pa_cons (pv 6) (pa_cons (pv 3) pa_nil))) (pa_cons (pe_c C_asks hr (by decide) rfl (pa_cons (pv 6) (pa_cons (pv 3) pa_nil))) (pa_cons (pe_c C_mistakes hr (by decide) rfl (pa_cons (pv 6) (pa_cons (pv 3) pa_nil))) pa_nil))))))
      (pss_cons (ps_if (pt_not (pt_val (pe_c C_law_same hr (by decide) rfl (pa_cons (pe_op op_cat (pv 5) (pe_lst (pa_cons (pe_c C_teaching_number hr (by decide) rfl (pa_cons (pv 6) (pa_cons (pv 3) pa_nil))) pa_nil))) (pa_cons (pe_op op_cat (pe_lst (pa_cons (pv 7) pa_nil)) (pe_op op_rep (pe_lst (pa_cons (pv 2) pa_nil)) pe_int)) pa_nil))))) (pss_one (ps_ret pe_bl)) pss_nil)
      (pss_one (ps_ret (pe_c C_same_i hr (by decide) rfl (pa_cons (pe_callB (klen K) rfl T.b_len PySem.boot_len (pa_cons (pe_c C_labelings hr (by decide) rfl (pa_cons (pe_mk K_Boxes hr (by decide) rfl (pa_cons (pv 1) pa_nil)) (pa_cons (pv 3) pa_nil))) pa_nil)) (pa_cons (pe_op op_add (pe_op op_fdiv (pe_op op_mul (pv 2) (pe_op op_add (pv 2) pe_int)) pe_int) pe_int) pa_nil)))))))))), ?_⟩
  refine ⟨_, rfl, _, rfl, d, n, m, rfl, by omega, hD, by omega, fun q ts H2 hq e2 hq2 hts hD2 => ?_⟩
  obtain ⟨dl, hdl⟩ := hD.at
  have hT2 := tabs_exd hT e2 hdl
  have htl := hts.len
  obtain ⟨pl1, pl2, pl3, pl4, pl5, pl6, pl7, pl8⟩ := PL.apart k n ts hk2 hk3 hn hts
  have lps : ∀ p ∈ aptP k ts, p.length = k ∧ RowB 7 p := fun p hp => by
    refine ⟨apt_len hk2 p hp, ?_⟩
    obtain ⟨t, ht, rfl⟩ := List.mem_map.mp hp
    intro x hx
    have := hts.rg t ht
    rcases List.mem_append.mp hx with hx | hx
    · simp at hx
      rcases hx with rfl | rfl <;> exact bnd_small (by omega)
    · rw [(List.mem_replicate.mp hx).2]
      exact bnd_small (by omega)
  have hll : (aptP k ts).length = n := by unfold aptP; rw [List.length_map]; exact htl
  have pts : Pts (k : Int) (aptP k ts) := pts_of (by omega) hk3 (fun p hp => (lps p hp).1) (nodup_map (fun a b e => by
    have := congrArg (fun l : List Int => l.getD 0 0) e
    simpa using this) hts.nd)
  have askR : ∀ ls : List Bool, AskC (.rising k) ((aptP k ts).zip ls) := ask_of (by omega) (by show 1 ≤ k; omega) hk3 lps (fun m e => by cases e)
  have askB : ∀ ls : List Bool, AskC (.boxes k) ((aptP k ts).zip ls) := ask_of (by omega) (by show 1 ≤ k; omega) hk3 lps (fun m e => by cases e)
  refine ⟨q, rfl, ⟨_, SqL.of hq2⟩, fun D hDn => lc_data ts (fun _ => true) IsP (fun t => [t, 0 - t] ++ List.replicate (k - 2) 3) (Y := YAt (ts.map V.int)) (G := fun H => SqL K H q (ts.map V.int)) (by have z := walk_list (K := K) (a := q) (xs := ts.map V.int); rw [List.length_map] at z; exact z) tst_P (by omega) hDn (fun H e => SqL.of (e _ _ hq2)) (fun i x H H' h => h.1 ▸ Ex.refl H) (fun i t x H H' ht e hy Ky Kn k1 k2 => ?_) (fun H3 e3 hL3 => ?_)⟩
  · obtain ⟨rfl, hx⟩ := hy
    rw [List.getElem?_map, ht] at hx
    obtain rfl := Option.some.inj hx
    refine ⟨rfl, _, rfl, _, rfl, _, _, rfl, rfl, by show 2 ≤ sizeLine; decide, fun t1 ht1 => ⟨by show 1 ≤ sizeLine; decide, fun t2 ht2 => ?_⟩⟩
    have e12 := (Ex.new (o := .tup [.int t, .int (0 - t)]) ht1).trans (Ex.new (o := .tup [.int 3]) ht2)
    have h12 := (Ex.new (o := .tup [.int 3]) ht2) _ _ (upd_same (H := H') (a := t1) (o := .tup [.int t, .int (0 - t)]))
    refine ⟨_, rfl, _, _, rfl, rfl, t2, (k : Int) - 2, [.int 3], rfl, rfl, upd_same, (by simp), by omega, by omega, by simp, fun t3 H4 e4 ht3 => ?_⟩
    have hfl : (List.replicate ((k : Int) - 2).toNat [V.int 3]).flatten = (List.replicate (k - 2) (3 : Int)).map V.int := by
      rw [show ((k : Int) - 2).toNat = k - 2 by omega]
      simp
    rw [hfl] at ht3
    have hp1 : IsP H4 (.ref t1) [t, 0 - t] := ⟨t1, rfl, e4 _ _ h12⟩
    by_cases hk : k = 2
    · subst hk
      refine ⟨t1, t3, _, _, rfl, rfl, SqT.of (e4 _ _ h12), SqT.of ht3, (by show 2 + 0 ≤ sizeLine; decide), (fun h => absurd h (by simp)), (fun _ _ => ?_), (fun _ h => absurd rfl h)⟩
      exact k1 rfl _ _ (e12.trans e4) ⟨t1, rfl, e4 _ _ h12⟩
    · exact cat_PP hp1 ht3 (by show 2 ≤ 1000; decide) (by rw [List.length_replicate]; omega) (by intro h; have := congrArg List.length h; rw [List.length_replicate] at this; simp at this; omega) fun v' H5 e5 hv' => k1 rfl _ _ ((e12.trans e4).trans e5) hv'
  · rw [filter_all] at hL3
    have hL3 : Ls IsP H3 D (aptP k ts) := hL3
    have e23 : Ex H2 H3 := e3
    refine ⟨_, rfl, fun x dx hx0 hdx hne => ⟨x, dx, (k : Int), rfl, upd_same, by omega, by omega, fun H4 hk4 hx4 => ⟨rfl, ?_⟩⟩⟩
    have e4 := made_ex hx0 hdx hne hk4
    have kat : KindAt c H4 x (.rising k) := ⟨dx, _, hx4, rfl, trivial, rfl⟩
    have L4 := hL3.mono tst_P.sst e4
    refine ⟨_, _, rfl, ?_⟩
    obtain ⟨ys, hD4, hys⟩ := id L4
    have hyl := hys.length
    refine ⟨_, rfl, D, rfl, ⟨ys, SqL.of hD4⟩, for_it (walk_list (xs := ys)) (fun i σ H' => H' = H4 ∧ ∃ x1, σ = [some (.ref d), some (.int k), some (.int n), some (.ref D), x1, none, some (.ref x), some (.int ((2 ^ i : Nat) : Int)), none]) ⟨rfl, _, rfl⟩ (fun i σ H' _ h => h.1 ▸ SqL.of hD4) (fun i y σ H5 H6 hi h hy => ?_) (fun σ H' h => ?_)⟩
    · obtain ⟨rfl, x1, rfl⟩ := h
      obtain ⟨rfl, _⟩ := hy
      refine ⟨_, rfl, _, _, rfl, rfl, .inl (by decide), rfl, some y, ?_⟩
      rw [show 2 ^ (i + 1) = 2 * 2 ^ i by rw [Nat.pow_succ, Nat.mul_comm]]
      rw [show ((2 * 2 ^ i : Nat) : Int) = 2 * ((2 ^ i : Nat) : Int) by simp]
      rfl
    · obtain ⟨rfl, x1, rfl⟩ := h
      rw [hyl, hll]
      have k1' : 1 ≤ (Kd.rising k).places := by show 1 ≤ k; omega
      have hne : LB (.rising k) (aptP k ts) ≠ [] := fun h => by
        rw [h] at pl1
        have := Nat.two_pow_pos n
        simp at pl1
        omega
      have hT4 := (hT2.ext e23).ext e4
      refine ⟨_, rfl, _, rfl, x, D, .rising k, aptP k ts, rfl, kat, k1', hk3, L4, pts, by omega, askR, fun p1 H5 hp1 e5 hL5 => ?_⟩
      obtain ⟨zs, hp5, hzs⟩ := hL5
      have hzl := hzs.length
      refine ⟨p1, zs, rfl, .inl (SqL.of hp5), ?_⟩
      have kat5 := kat.mono e5
      have L5 := L4.mono tst_P.sst e5
      refine ⟨_, rfl, _, rfl, x, D, .rising k, aptP k ts, rfl, kat5, k1', hk3, L5, pts, by omega, askR, pl2, fun H6 e6 => ?_⟩
      have kat6 := kat5.mono e6
      have L6 := L5.mono tst_P.sst e6
      have hT6 := (hT4.ext e5).ext e6
      refine ⟨_, rfl, _, rfl, x, D, .rising k, aptP k ts, rfl, kat6, k1', hk3, L6, pts, by omega, askR, hne, hT6, fun H7 e7 hT7 => ?_⟩
      have kat7 := kind_extn e7 kat6
      have L7 := ls_extn tst_P e7 L6
      refine ⟨_, rfl, _, rfl, x, D, .rising k, aptP k ts, rfl, kat7, k1', hk3, L7, pts, by omega, askR, hne, fun H8 e8 => ?_⟩
      have kat8 := kat7.mono e8
      have L8 := L7.mono tst_P.sst e8
      refine ⟨by show 4 ≤ sizeLine; decide, fun F hF => ?_⟩
      have q1 : (labsOf FitsC (.rising k) (aptP k ts)).length = 2 ^ n := pl1
      have q3 : ((shatOf FitsC (.rising k) (aptP k ts)).getLast?.getD []).length = n := pl3
      have q4 : cost n (labsOf FitsC (.rising k) (aptP k ts)) = n := pl4
      have q5 : dep n (labsOf FitsC (.rising k) (aptP k ts)) = n := pl5
      rw [hll, hzl, q1, q3, q4, q5]
      have eF := Ex.new (o := .lst [.int ((2 ^ n : Nat) : Int), .int (n : Int), .int (n : Int), .int (n : Int)]) hF
      have hFs : (upd H8 F (.lst [.int ((2 ^ n : Nat) : Int), .int (n : Int), .int (n : Int), .int (n : Int)])) F = some (.lst [.int ((2 ^ n : Nat) : Int), .int (n : Int), .int (n : Int), .int (n : Int)]) := upd_same
      generalize upd H8 F (.lst [.int ((2 ^ n : Nat) : Int), .int (n : Int), .int (n : Int), .int (n : Int)]) = H9 at eF hFs ⊢
      have kat9 := kat8.mono eF
      have L9 := L8.mono tst_P.sst eF
      refine ⟨_, rfl, _, rfl, _, rfl, x, D, .rising k, aptP k ts, rfl, kat9, k1', hk3, L9, pts, by omega, askR, hne, pl6, fun mm hm1 hm2 H10 e10 => ?_⟩
      have hmm : mm = (n : Int) := by
        obtain ⟨l, hl, rfl⟩ := List.mem_map.mp hm1
        rw [pl7 l hl]
      subst hmm
      refine ⟨by show 1 ≤ sizeLine; decide, fun G hG => ?_⟩
      have eG := Ex.new (o := .lst [.int (n : Int)]) hG
      refine ⟨F, G, _, _, rfl, rfl, eG _ _ (e10 _ _ hFs), upd_same, by show 5 ≤ sizeLine; decide, fun J hJ => ?_⟩
      have eJ := Ex.new (o := .lst [.int ((2 ^ n : Nat) : Int), .int (n : Int), .int (n : Int), .int (n : Int), .int (n : Int)]) hJ
      have e9J := (e10.trans eG).trans eJ
      have hJs : (upd (upd H10 G (.lst [.int (n : Int)])) J (.lst ([.int ((2 ^ n : Nat) : Int), .int (n : Int), .int (n : Int), .int (n : Int)] ++ [.int (n : Int)]))) J = some (.lst (([((2 ^ n : Nat) : Int), (n : Int), (n : Int), (n : Int), (n : Int)] : List Int).map V.int)) := upd_same
      have e9J' : Ex H9 (upd (upd H10 G (.lst [.int (n : Int)])) J (.lst ([.int ((2 ^ n : Nat) : Int), .int (n : Int), .int (n : Int), .int (n : Int)] ++ [.int (n : Int)]))) := e9J
      generalize upd (upd H10 G (.lst [.int (n : Int)])) J (.lst ([.int ((2 ^ n : Nat) : Int), .int (n : Int), .int (n : Int), .int (n : Int)] ++ [.int (n : Int)])) = H11 at hJs e9J' ⊢
      refine ⟨_, rfl, by show 1 ≤ sizeLine; decide, fun A hA => ⟨_, rfl, by show 1 ≤ sizeLine; decide, fun B hB => ?_⟩⟩
      have eA := Ex.new (o := .lst [.int ((2 ^ n : Nat) : Int)]) hA
      have eB := Ex.new (o := .lst [.int (n : Int)]) hB
      refine ⟨B, 4, [.int (n : Int)], rfl, rfl, upd_same, by decide, by decide, by show 1 * 4 ≤ sizeLine; decide, fun C hC => ?_⟩
      have eC := Ex.new (o := .lst (List.replicate (4 : Int).toNat [V.int (n : Int)]).flatten) hC
      refine ⟨A, C, _, _, rfl, rfl, eC _ _ (eB _ _ upd_same), upd_same, by show 1 + 4 ≤ sizeLine; decide, fun E' hE => ?_⟩
      have eE := Ex.new (o := .lst ([V.int ((2 ^ n : Nat) : Int)] ++ (List.replicate (4 : Int).toNat [V.int (n : Int)]).flatten)) hE
      have eAE := ((eA.trans eB).trans eC).trans eE
      refine ⟨J, E', [((2 ^ n : Nat) : Int), (n : Int), (n : Int), (n : Int), (n : Int)], [((2 ^ n : Nat) : Int), (n : Int), (n : Int), (n : Int), (n : Int)], rfl, eAE _ _ hJs, upd_same, by show 5 ≤ 100; decide, fun H12 e12 => ?_⟩
      rw [decide_eq_true rfl]
      refine ⟨true, rfl, iteF ?_⟩
      have e912 := (e9J'.trans eAE).trans e12
      have L12 := L9.mono tst_P.sst e912
      refine ⟨_, rfl, fun x2 dx2 hx20 hdx2 hne2 => ⟨x2, dx2, (k : Int), rfl, upd_same, by omega, by omega, fun H13 hk13 hx13 => ⟨rfl, ?_⟩⟩⟩
      have e13 := made_ex hx20 hdx2 hne2 hk13
      have kat13 : KindAt c H13 x2 (.boxes k) := ⟨dx2, _, hx13, rfl, trivial, rfl⟩
      refine ⟨_, rfl, x2, D, .boxes k, aptP k ts, rfl, kat13, by show 1 ≤ k; omega, hk3, L12.mono tst_P.sst e13, pts, by omega, askB, fun p2 H14 hp2 e14 hL14 => ?_⟩
      obtain ⟨us, hp14, hus⟩ := hL14
      have hul := hus.length
      refine ⟨p2, us, rfl, .inl (SqL.of hp14), ?_⟩
      refine ⟨_, rfl, _, rfl, _, _, rfl, rfl, _, _, rfl, rfl, .inl ⟨by omega, by omega⟩, _, _, rfl, rfl, ⟨by decide, by decide⟩, _, _, rfl, rfl, _, _, rfl, fun H15 e15 => ?_⟩
      rw [hul, pl8, decide_eq_true rfl]
      have e715 := (((e8.trans eF).trans e912).trans e13).trans (e14.trans e15)
      have eM : ExM d H H15 := ((ExM.ofD e2).trans (ExM.of (((e23.trans e4).trans e5).trans e6))).trans ((ExM.ofN e7).trans (ExM.of e715))
      refine hQ H15 eM ?_ (hT7.ext e715)
      exact ((((hD2.ex (((e23.trans e4).trans e5).trans e6)).exn e7).ex e715).mono (by omega))
end
end K49

namespace K49
open PySem PySem.Spec PyProof.Rows L2 LamX
open C8 (Cal Met Mak pe_c pe_mk pe_mt pe_mt0 pe_gc)
open Evl (Ex)
theorem RsOk.perm {n : Nat} {ts us : List Int} (h : RsOk n ts) (p : us.Perm ts) : RsOk n us := ⟨by rw [p.length_eq, h.len], (p.nodup_iff).mpr h.nd, fun t ht => h.rg t (p.mem_iff.mp ht)⟩
theorem paired_perm {γ δ : Type} {F : γ → δ → Prop} {ys xs : List γ} (h : ys.Perm xs) : ∀ {ds : List δ}, Paired F xs ds → ∃ ds' : List δ, ds'.Perm ds ∧ Paired F ys ds' := by
  induction h with
  | nil => intro ds q; exact ⟨ds, List.Perm.refl _, q⟩
  | cons x _ ih =>
    intro ds q
    cases q with
    | cons r t =>
      obtain ⟨ds', p1, p2⟩ := ih t
      exact ⟨_ :: ds', List.Perm.cons _ p1, .cons r p2⟩
  | swap x y l =>
    intro ds q
    cases q with
    | cons r t =>
      cases t with
      | cons r2 t2 => exact ⟨_, List.Perm.swap _ _ _, .cons r2 (.cons r t2)⟩
  | trans _ _ ih1 ih2 =>
    intro ds q
    obtain ⟨ds1, p1, q1⟩ := ih2 q
    obtain ⟨ds2, p2, q2⟩ := ih1 q1
    exact ⟨ds2, p2.trans p1, q2⟩
theorem perm_map_inv {γ δ : Type} {f : γ → δ} {ds ms : List δ} (h : ds.Perm ms) : ∀ {ts : List γ}, ms = ts.map f → ∃ us : List γ, us.Perm ts ∧ ds = us.map f := by
  induction h with
  | nil => intro ts e; exact ⟨ts, List.Perm.refl _, e⟩
  | cons x _ ih =>
    intro ts e
    match ts, e with
    | t :: ts, e =>
      rw [List.map_cons, List.cons.injEq] at e
      obtain ⟨us, p, q⟩ := ih e.2
      exact ⟨t :: us, List.Perm.cons _ p, by rw [List.map_cons, e.1, q]⟩
  | swap x y l =>
    intro ts e
    match ts, e with
    | t :: t2 :: ts, e =>
      rw [List.map_cons, List.map_cons, List.cons.injEq, List.cons.injEq] at e
      exact ⟨t2 :: t :: ts, List.Perm.swap _ _ _, by rw [List.map_cons, List.map_cons, e.1, e.2.1, e.2.2]⟩
  | trans _ _ ih1 ih2 =>
    intro ts e
    obtain ⟨us, p, q⟩ := ih2 e
    obtain ⟨vs, p', q'⟩ := ih1 q
    exact ⟨vs, p'.trans p, q'⟩
section
variable {P : Program} {w : World} {K : PySem.W.Frag} {mg : Str → Option Value} {base : Heap}
theorem sc_law_in_row_right : FnScope ["_law_draws", "_law_places", "_law_many", "_law_rises_here", "_law_row", "_law_found", "_law_down", "_law_up", "_law_at"] ["_law_draws", "_law_places", "_law_many"] (defScope s_law_in_row_right) := C8.fnScope_by (by decide +kernel)
theorem cal_law_in_row_right (T : Txt mg) (D : Dfn K mg "_law_in_row_right" s_law_in_row_right ["_law_draws", "_law_places", "_law_many"] [])
    {c : Cls5} {Pt : Addr} (PL : PLaw) (C_law_rises : Cal P w K mg base 3 "_law_rises" spRises []) (C_law_mixed : Cal P w K mg base 2 "_law_mixed" (spMixed K) []) (C_law_halvings : Cal P w K mg base 1 "_law_halvings" spHalvings []) (C_law_same : Cal P w K mg base 2 "_law_same" spSameL [])
    (C_labelings : Cal P w K mg base 9 "labelings" (spLabelings c AskC FitsC) []) (C_dimension : Cal P w K mg base 11 "dimension" (spDimension c AskC FitsC) []) (C_asks : Cal P w K mg base 11 "asks" (spAsks c AskC FitsC (TQ Pt)) [.non]) (C_mistakes : Cal P w K mg base 10 "mistakes" (spMistakes c AskC FitsC) [])
    (K_Rising : Mak P w K mg base 3 "Rising" c.rising (spKindInit c.rising) []) (K_Boxes : Mak P w K mg base 3 "Boxes" c.boxes (spKindInit c.boxes) []) : Cal P w K mg base (12) "_law_in_row_right" (spPart Pt 1) [] := by
  have nd := sc_law_in_row_right.nd
  refine D.cal sc_law_in_row_right (fun vs H Q E h => by obtain ⟨d, k, n, m, rfl, hk1, hk3, hn, hD, hm, hT, hQ⟩ := h; rfl) (fun f cdv A outer s H vs Q E hr h => ?_)
  obtain ⟨d, k, n, m, rfl, hk1, hk3, hn, hD, hm, hT, hQ⟩ := h
  refine ⟨_, (pss_cons (ps_set (i := 3) nd rfl (Or.inl rfl) (pe_callB (ksorted K) rfl T.b_sorted (by decide +kernel) (pa_cons (pe_c C_law_rises hr (by decide) rfl (pa_cons (pv 0) (pa_cons (pv 2) pa_nil))) pa_nil)))
      (pss_cons (ps_set (i := 4) nd rfl (Or.inl rfl) (pe_c C_law_mixed hr (by decide) rfl (pa_cons (pv 0) (pa_cons (pe_lc rfl nd (kpi_list K (pv 3)) (blkOk_by (own := [("_law_at", 8)]) (N := ["_law_draws", "_law_places", "_law_many", "_law_rises_here", "_law_row", "_law_found", "_law_down", "_law_up", "_law_at"]) (sc := defScope s_law_in_row_right) (by decide +kernel)) (fun _ _ _ _ _ => (pg_name (i := 8) nd rfl (Or.inl rfl))) (fun _ _ _ _ _ => pts_nil) (fun _ _ _ _ _ => (kpe_tupleOf K rfl T.b_tuple (pe_op op_rep (pe_lst (pa_cons (pv 8) pa_nil)) (pv 1))))) pa_nil))))
      (pss_cons (ps_asg (pe_c C_law_halvings hr (by decide) rfl (pa_cons (pe_op op_add (pv 2) pe_int) pa_nil)) (kpg_tup K 2 rfl (pgs_cons (pg_name (i := 6) nd rfl (Or.inl rfl)) (pgs_cons (pg_name (i := 7) nd rfl (Or.inl rfl)) pgs_nil))))
      (pss_cons (ps_set (i := 5) nd rfl (Or.inl rfl) (pe_lst (pa_cons (pe_callB (klen K) rfl T.b_len PySem.boot_len (pa_cons (pe_c C_labelings hr (by decide) rfl (pa_cons (pe_mk K_Rising hr (by decide) rfl (pa_cons (pv 1) pa_nil)) (pa_cons (pv 4) pa_nil))) pa_nil)) (pa_cons (pe_c C_asks hr (by decide) rfl (pa_cons (pe_mk K_Rising hr (by decide) rfl (pa_cons (pv 1) pa_nil)) (pa_cons (pv 4) pa_nil))) (pa_cons (pe_c C_mistakes hr (by decide) rfl (pa_cons (pe_mk K_Rising hr (by decide) rfl (pa_cons (pv 1) pa_nil)) (pa_cons (pv 4) pa_nil))) pa_nil)))))
      (pss_cons (ps_set (i := 5) nd rfl (Or.inl rfl) (pe_op op_cat (pv 5) (pe_lst (pa_cons (pe_c C_dimension hr (by decide) rfl (pa_cons (pe_mk K_Rising hr (by decide) rfl (pa_cons (pv 1) pa_nil)) (pa_cons (pv 4) pa_nil))) (pa_cons (pe_callB (klen K) rfl T.b_len PySem.boot_len (pa_cons (pe_c C_labelings hr (by decide) rfl (pa_cons (pe_mk K_Boxes hr (by decide) rfl (pa_cons (pv 1) pa_nil)) (pa_cons (pv 4) pa_nil))) pa_nil)) pa_nil)))))
      (pss_one (ps_ret (pe_c C_law_same hr (by decide) rfl (pa_cons (pv 5) (pa_cons (pe_lst (pa_cons (pe_op op_add (pv 2) pe_int) (pa_cons (pv 7) (pa_cons (pv 6) (pa_cons (pe_callTy call_int1 rfl T.b_int (by decide +kernel) (pa_cons (pe_cmpR op_gt (pv 2) pe_int (nomark _)) pa_nil)) (pa_cons (pe_op op_add (pe_op op_fdiv (pe_op op_mul (pv 2) (pe_op op_add (pv 2) pe_int)) pe_int) pe_int) pa_nil)))))) pa_nil)))))))))), ?_⟩
  refine ⟨_, rfl, _, rfl, d, n, m, rfl, by omega, hD, by omega, fun q ts0 H2 hq e2 hq2 hts0 hD2 => ?_⟩
  obtain ⟨dl, hdl⟩ := hD.at
  obtain ⟨dl2, hdl2⟩ := hD2.at
  have hT2 := tabs_exd hT e2 hdl
  have htl0 := hts0.len
  refine ⟨q, ts0, rfl, SqL.of hq2, by omega, fun ts p hpm _ hp => ?_⟩
  have hts := hts0.perm hpm
  have htl := hts.len
  have ep := Ex.new (o := .lst (ts.map V.int)) hp
  have hps := upd_same (H := H2) (a := p) (o := HO.lst (ts.map V.int))
  generalize upd H2 p (.lst (ts.map V.int)) = H3 at ep hps ⊢
  refine ⟨_, rfl, _, rfl, p, rfl, ⟨_, SqL.of hps⟩, fun D hDn => lc_data ts (fun _ => true) IsP (fun t => List.replicate k t) (Y := YAt (ts.map V.int)) (G := fun H => SqL K H p (ts.map V.int)) (by have z := walk_list (K := K) (a := p) (xs := ts.map V.int); rw [List.length_map] at z; exact z) tst_P (by omega) hDn (fun H e => SqL.of (e _ _ hps)) (fun i x H H' h => h.1 ▸ Ex.refl H) (fun i t x H H' ht e hy Ky Kn k1 k2 => ?_) (fun H4 e4 hL4 => ?_)⟩
  · obtain ⟨rfl, hx⟩ := hy
    rw [List.getElem?_map, ht] at hx
    obtain rfl := Option.some.inj hx
    refine ⟨rfl, _, rfl, by show 1 ≤ sizeLine; decide, fun z hz => ⟨_, rfl, z, (k : Int), [.int t], rfl, rfl, upd_same, by omega, by omega, by show 1 * _ ≤ sizeLine; rw [Nat.one_mul]; exact sz (by omega), fun wv hwv => ?_⟩⟩
    have hfl : (List.replicate ((k : Int)).toNat [V.int t]).flatten = (List.replicate k t).map V.int := by
      rw [Int.toNat_natCast]
      simp
    rw [hfl]
    refine .inl ⟨wv, _, rfl, SqL.of upd_same, fun T hT => k1 rfl _ _ (((Ex.new hz).trans (Ex.new hwv)).trans (Ex.new hT)) ⟨T, rfl, upd_same⟩⟩
  · rw [filter_all] at hL4
    obtain ⟨ys, hD4, hys⟩ := hL4
    have hyl := hys.length
    rw [List.length_map] at hyl
    have e24 := ep.trans e4
    have hD4' := hD2.ex e24
    have nDd : D ≠ d := fun e => by rw [e, (ep _ _ hdl2)] at hDn; cases hDn
    refine ⟨d, D, ys, m + 9, rfl, hD4, nDd, by omega, hD4', by omega, fun r zs H5 hr e5 hr5 hpm5 hD5 => ?_⟩
    have hT5 := tabs_exd (hT2.ext e24) e5 (e24 _ _ hdl2)
    obtain ⟨ds, hds, hzs0⟩ := paired_perm hpm5 hys
    obtain ⟨us, hus, rfl⟩ := perm_map_inv hds rfl
    have hrs := hts.perm hus
    have hul := hrs.len
    have hzs : All IsP H5 zs (rowP k us) := All.tmono tst_P (ExD.tex e5 (e24 _ _ hdl2)) hzs0
    have L5 : Ls IsP H5 r (rowP k us) := ⟨zs, hr5, hzs⟩
    have e05 : ExM d H H5 := ExM.ofD ((e2.trans (ExD.of e24)).trans e5)
    have hD5' : Drw H5 d (m + 20) := hD5.mono (by omega)
    have lps : ∀ p ∈ rowP k us, p.length = k ∧ RowB 7 p := fun p hp => by
      obtain ⟨t, ht, rfl⟩ := List.mem_map.mp hp
      refine ⟨List.length_replicate, fun x hx => ?_⟩
      rw [(List.mem_replicate.mp hx).2]
      have := hrs.rg t ht
      exact bnd_small (by omega)
    have hll : (rowP k us).length = n := by unfold rowP; rw [List.length_map]; exact hul
    have pts : Pts (k : Int) (rowP k us) := pts_of (by omega) hk3 (fun p hp => (lps p hp).1) (nodup_map (fun a b e => by
      have z := congrArg (fun l : List Int => l.getD 0 0) e
      have hk : 0 < k := by omega
      simpa [List.getD, List.getElem?_replicate, hk] using z) hrs.nd)
    have k1' : 1 ≤ (Kd.rising k).places := by show 1 ≤ k; omega
    have askR : ∀ ls : List Bool, AskC (.rising k) ((rowP k us).zip ls) := ask_of (by omega) k1' hk3 lps (fun m e => by cases e)
    have askB : ∀ ls : List Bool, AskC (.boxes k) ((rowP k us).zip ls) := ask_of (by omega) k1' hk3 lps (fun m e => by cases e)
    refine ⟨_, rfl, _, _, rfl, rfl, n + 1, rfl, by omega, by omega, fun t dn up H6 e6 ht6 hHv => ?_⟩
    obtain ⟨pl1, pl4, pl5, pl2, pl3, pl8⟩ := PL.row k n dn up us hk1 hk3 hn hrs hHv
    have q1 : (labsOf FitsC (.rising k) (rowP k us)).length = n + 1 := pl1
    have q3 : ((shatOf FitsC (.rising k) (rowP k us)).getLast?.getD []).length = if 0 < n then 1 else 0 := pl3
    have q4 : cost n (labsOf FitsC (.rising k) (rowP k us)) = up := pl4
    have q5 : dep n (labsOf FitsC (.rising k) (rowP k us)) = dn := pl5
    have q8 : ((labsOf FitsC (.boxes k) (rowP k us)).length : Int) = (n : Int) * ((n : Int) + 1) / 2 + 1 := pl8
    have hne : labsOf FitsC (.rising k) (rowP k us) ≠ [] := fun h => by rw [h] at q1; simp at q1
    have L6 := L5.mono tst_P.sst e6
    have hT6 := hT5.ext e6
    refine ⟨t, _, rfl, SqT.of ht6, rfl, _, _, rfl, _, _, rfl, rfl, ?_⟩
    refine ⟨_, rfl, fun x dx hx0 hdx hne' => ⟨x, dx, (k : Int), rfl, upd_same, by omega, by omega, fun H7 hk7 hx7 => ⟨rfl, ?_⟩⟩⟩
    have e7 := made_ex hx0 hdx hne' hk7
    have kat7 : KindAt c H7 x (.rising k) := ⟨dx, _, hx7, rfl, trivial, rfl⟩
    have L7 := L6.mono tst_P.sst e7
    refine ⟨_, rfl, x, r, .rising k, rowP k us, rfl, kat7, k1', hk3, L7, pts, by omega, askR, fun p1 H8 hp1 e8 hL8 => ?_⟩
    obtain ⟨ws, hp8, hws⟩ := hL8
    have hwl := hws.length
    refine ⟨p1, ws, rfl, .inl (SqL.of hp8), ?_⟩
    have L8 := L7.mono tst_P.sst e8
    refine ⟨_, rfl, fun x dx hx0 hdx hne' => ⟨x, dx, (k : Int), rfl, upd_same, by omega, by omega, fun H9 hk9 hx9 => ⟨rfl, ?_⟩⟩⟩
    have e9 := made_ex hx0 hdx hne' hk9
    have kat9 : KindAt c H9 x (.rising k) := ⟨dx, _, hx9, rfl, trivial, rfl⟩
    have L9 := L8.mono tst_P.sst e9
    have hT9 := ((hT6.ext e7).ext e8).ext e9
    refine ⟨_, rfl, x, r, .rising k, rowP k us, rfl, kat9, k1', hk3, L9, pts, by omega, askR, hne, hT9, fun H10 e10 hT10 => ?_⟩
    have L10 := ls_extn tst_P e10 L9
    refine ⟨_, rfl, fun x dx hx0 hdx hne' => ⟨x, dx, (k : Int), rfl, upd_same, by omega, by omega, fun H11 hk11 hx11 => ⟨rfl, ?_⟩⟩⟩
    have e11 := made_ex hx0 hdx hne' hk11
    have kat11 : KindAt c H11 x (.rising k) := ⟨dx, _, hx11, rfl, trivial, rfl⟩
    have L11 := L10.mono tst_P.sst e11
    refine ⟨_, rfl, x, r, .rising k, rowP k us, rfl, kat11, k1', hk3, L11, pts, by omega, askR, hne, fun H12 e12 => ?_⟩
    have L12 := L11.mono tst_P.sst e12
    refine ⟨by show 3 ≤ sizeLine; decide, fun F hF => ?_⟩
    rw [hll, hwl, q1, q4, q5]
    have eF := Ex.new (o := .lst [.int ((n + 1 : Nat) : Int), .int (up : Int), .int (dn : Int)]) hF
    have hFs : (upd H12 F (.lst [.int ((n + 1 : Nat) : Int), .int (up : Int), .int (dn : Int)])) F = some (.lst [.int ((n + 1 : Nat) : Int), .int (up : Int), .int (dn : Int)]) := upd_same
    generalize upd H12 F (.lst [.int ((n + 1 : Nat) : Int), .int (up : Int), .int (dn : Int)]) = H13 at eF hFs ⊢
    have L13 := L12.mono tst_P.sst eF
    refine ⟨_, rfl, _, rfl, fun x dx hx0 hdx hne' => ⟨x, dx, (k : Int), rfl, upd_same, by omega, by omega, fun H14 hk14 hx14 => ⟨rfl, ?_⟩⟩⟩
    have e14 := made_ex hx0 hdx hne' hk14
    have kat14 : KindAt c H14 x (.rising k) := ⟨dx, _, hx14, rfl, trivial, rfl⟩
    have L14 := L13.mono tst_P.sst e14
    refine ⟨_, rfl, x, r, .rising k, rowP k us, rfl, kat14, k1', hk3, L14, pts, by omega, askR, pl2, fun H15 e15 => ?_⟩
    have L15 := L14.mono tst_P.sst e15
    refine ⟨_, rfl, fun x dx hx0 hdx hne' => ⟨x, dx, (k : Int), rfl, upd_same, by omega, by omega, fun H16 hk16 hx16 => ⟨rfl, ?_⟩⟩⟩
    have e16 := made_ex hx0 hdx hne' hk16
    have kat16 : KindAt c H16 x (.boxes k) := ⟨dx, _, hx16, rfl, trivial, rfl⟩
    refine ⟨_, rfl, x, r, .boxes k, rowP k us, rfl, kat16, k1', hk3, L15.mono tst_P.sst e16, pts, by omega, askB, fun p2 H17 hp2 e17 hL17 => ?_⟩
    obtain ⟨vs, hp17, hvs⟩ := hL17
    have hvl := hvs.length
    refine ⟨p2, vs, rfl, .inl (SqL.of hp17), by show 2 ≤ sizeLine; decide, fun G hG => ?_⟩
    rw [hvl, q8, q3]
    have eG := Ex.new (o := .lst [.int ((if 0 < n then 1 else 0 : Nat) : Int), .int ((n : Int) * ((n : Int) + 1) / 2 + 1)]) hG
    have e1317 := ((e14.trans e15).trans e16).trans e17
    refine ⟨F, G, _, _, rfl, rfl, eG _ _ (e1317 _ _ hFs), upd_same, by show 5 ≤ sizeLine; decide, fun J hJ => ?_⟩
    have eJ := Ex.new (o := .lst ([.int ((n + 1 : Nat) : Int), .int (up : Int), .int (dn : Int)] ++ [.int ((if 0 < n then 1 else 0 : Nat) : Int), .int ((n : Int) * ((n : Int) + 1) / 2 + 1)])) hJ
    refine ⟨_, rfl, _, rfl, _, _, rfl, rfl, _, rfl, _, rfl, _, rfl, _, _, rfl, rfl, ?_⟩
    refine .inr ⟨_, rfl, _, rfl, _, rfl, _, _, rfl, rfl, _, _, rfl, rfl, .inl ⟨by omega, by omega⟩, _, _, rfl, rfl, ⟨by decide, by decide⟩, _, _, rfl, rfl, by show 5 ≤ sizeLine; decide, fun M hM => ?_⟩
    have eM := Ex.new (o := .lst [.int ((n : Int) + 1), .int (up : Int), .int (dn : Int), .int (if decide ((0 : Int) < (n : Int)) = true then 1 else 0), .int ((n : Int) * ((n : Int) + 1) / 2 + 1)]) hM
    refine ⟨J, M, [((n + 1 : Nat) : Int), (up : Int), (dn : Int), ((if 0 < n then 1 else 0 : Nat) : Int), (n : Int) * ((n : Int) + 1) / 2 + 1], [(n : Int) + 1, (up : Int), (dn : Int), (if decide ((0 : Int) < (n : Int)) = true then 1 else 0), (n : Int) * ((n : Int) + 1) / 2 + 1], rfl, eM _ _ upd_same, upd_same, by show 5 ≤ 100; decide, fun H20 e20 => ?_⟩
    have hdec : decide ([((n + 1 : Nat) : Int), (up : Int), (dn : Int), ((if 0 < n then 1 else 0 : Nat) : Int), (n : Int) * ((n : Int) + 1) / 2 + 1] = [(n : Int) + 1, (up : Int), (dn : Int), (if decide ((0 : Int) < (n : Int)) = true then 1 else 0), (n : Int) * ((n : Int) + 1) / 2 + 1]) = true := by
      refine decide_eq_true ?_
      have e1 : ((n + 1 : Nat) : Int) = (n : Int) + 1 := rfl
      have e2 : ((if 0 < n then 1 else 0 : Nat) : Int) = (if decide ((0 : Int) < (n : Int)) = true then 1 else 0) := by
        by_cases h : 0 < n
        · rw [if_pos h, if_pos (by rw [decide_eq_true_eq]; omega)]
          rfl
        · rw [if_neg h, if_neg (by rw [decide_eq_true_eq]; omega)]
          rfl
      rw [e1, e2]
    rw [hdec]
    have e1020 : Ex H10 H20 := ((((e11.trans e12).trans eF).trans e1317).trans (eG.trans (eJ.trans (eM.trans e20))))
    have e59 : Ex H5 H9 := ((e6.trans e7).trans e8).trans e9
    exact hQ H20 ((e05.trans (ExM.of e59)).trans ((ExM.ofN e10).trans (ExM.of e1020))) (((hD5'.ex e59).exn e10).ex e1020) (hT10.ext e1020)
end
end K49

namespace K49
open PySem PySem.Spec PyProof.Rows L2 LamX
open C8 (Cal Met Mak pe_c pe_mk pe_mt pe_mt0 pe_gc)
open Evl (Ex)
theorem sql_extn {K : PySem.W.Frag} {H H' : Hp} {a : Addr} {xs : List V} (h : SqL K H a xs) (e : ExtN H H') : SqL K H' a xs :=
  h.elim (fun h => .inl (h.elim (fun h => .inl (e _ _ h (fun _ z => by cases z))) fun ⟨o, h⟩ => .inr ⟨o, e _ _ h (fun _ z => by cases z)⟩)) fun h => .inr h
def spLaw (K : PySem.W.Frag) (Pt : Addr) : Sp := fun vs H Q _ => ∃ (a : Addr) (ns : List Int), vs = [.ref a] ∧ SqL K H a (ns.map V.int) ∧ ns.length ≤ 1000 ∧ Tabs (TQ Pt) H ∧ ∀ H', Q (.bl true) H'
section
variable {P : Program} {w : World} {K : PySem.W.Frag} {mg : Str → Option Value} {base : Heap}
/-- a promise of the module's def x, its parameters told -/
structure CalP (P : Program) (w : World) (K : PySem.W.Frag) (mg : Str → Option Value) (base : Heap) (k : Nat) (x : Str) (sp : Sp) (ps : List Str) : Prop where
  ex : ∃ (f : Addr) (fd : FuncData), FnOk P w K mg base C8.CX0 k f fd ps sp ∧ mg x = some (.ref f) ∧ Binds K fd ps [] ∧ ∃ oc od osl, K.lookup f = some ⟨oc, od, .func fd, osl⟩
theorem Dfn.calP {N ps : List Str} {k : Nat} {sp : Sp} {x : Str} {st : Stmt} (D : Dfn K mg x st ps []) (S : FnScope N ps (defScope st)) (len : ∀ vs H Q E, sp vs H Q E → vs.length = ps.length)
    (hbody : ∀ (f : Addr) (cdv : Value) (A : Around) (outer : List Env) (s : Shared) (H : Hp) (vs : List V) (Q : VK) (E : XK), Room k (A.deeper (envOfC x (defScope st) s.heap.objs.size f cdv)) → sp vs H Q E →
      ∃ t, PSs (cxOf C8.CX0 P w K mg base N x (defScope st) f cdv A outer s H E).nox (defBody st) t ∧ t { nx := fun _ H' => Q .non H', rt := Q } (start N vs) H) : CalP P w K mg base (k + 1) x sp ps := by
  obtain ⟨f, fd, dvs, kws, ds, F, hm, b, vd⟩ := D.ex
  cases vd
  have lk : ∃ oc od osl, K.lookup f = some ⟨oc, od, .func fd, osl⟩ := by
    obtain ⟨oc, od, dV, kV, doc, pm, an, cdv, ct, osl, rfl, lk, _⟩ := F.ex
    exact ⟨oc, od, osl, lk⟩
  refine ⟨f, fd, F.ok S len (fun cdv A outer s H vs Q E hr hs => ?_), hm, b, lk⟩
  obtain ⟨t, h1, h2⟩ := hbody f cdv A outer s H vs Q E hr hs
  exact ⟨t, PSs.nox h1, h2⟩
theorem sc_law : FnScope ["_law_script", "_law_turn", "_law_draws", "_law_points", "_law_found", "_law_places", "_law_many"] ["_law_script"] (defScope s_law) := C8.fnScope_by (by decide +kernel)
theorem cal_law (T : Txt mg) (D : Dfn K mg "law" s_law ["_law_script"] [])
    {c : Cls5} {Pt : Addr} (PL : PLaw) (C_law_source : Cal P w K mg base 1 "_law_source" (spSource K) []) (C_law_draw : Cal P w K mg base 1 "_law_draw" spDraw []) (C_law_curved : Cal P w K mg base 4 "_law_curved" spCurved [])
    (C_law_halves_of : Cal P w K mg base 2 "_law_halves_of" spHalvesOf []) (C_law_flats_of : Cal P w K mg base 2 "_law_flats_of" spFlatsOf []) (C_same_i : Cal P w K mg base 1 "_law_same" spSameI []) (C_law_same : Cal P w K mg base 2 "_law_same" spSameL [])
    (C_labelings : Cal P w K mg base 9 "labelings" (spLabelings c AskC FitsC) []) (C_dimension : Cal P w K mg base 11 "dimension" (spDimension c AskC FitsC) [])
    (C_law_in_row_right : Cal P w K mg base 12 "_law_in_row_right" (spPart Pt 1) []) (C_law_turns_right : Cal P w K mg base 12 "_law_turns_right" (spTurnsRight Pt) []) (C_law_apart_right : Cal P w K mg base 12 "_law_apart_right" (spPart Pt 2) [])
    (K_Halves : Mak P w K mg base 3 "Halves" c.halves (spKindInit c.halves) []) (K_Flats : Mak P w K mg base 3 "Flats" c.flats (spKindInit c.flats) []) : CalP P w K mg base (13) "law" (spLaw K Pt) ["_law_script"] := by
  have nd := sc_law.nd
  refine D.calP sc_law (fun vs H Q E h => by obtain ⟨a, ns, rfl, hS, hns, hT, hQ⟩ := h; rfl) (fun f cdv A outer s H vs Q E hr h => ?_)
  obtain ⟨a, ns, rfl, hS, hns, hT, hQ⟩ := h
  refine ⟨_, (pss_cons (ps_for PassesOwn.never rfl (pi_range1 rfl T.b_range (pa_cons (pe_op op_add pe_int (pe_callB (call_min2 rfl) rfl T.b_min (by decide +kernel) (pa_cons (pe_callB (klen K) rfl T.b_len PySem.boot_len (pa_cons (pv 0) pa_nil)) (pa_cons pe_int pa_nil)))) pa_nil)) (pg_name (i := 1) nd rfl (Or.inl rfl)) (pss_cons (ps_set (i := 2) nd rfl (Or.inl rfl) (pe_c C_law_source hr (by decide) rfl (pa_cons (pv 0) (pa_cons (pv 1) pa_nil))))
      (pss_cons (ps_par (i := 5) (j := 6) rfl nd rfl rfl (by decide) rfl rfl (pa_cons (pe_op op_add pe_int (pe_c C_law_draw hr (by decide) rfl (pa_cons (pv 2) (pa_cons pe_int pa_nil)))) (pa_cons (pe_c C_law_draw hr (by decide) rfl (pa_cons (pv 2) (pa_cons pe_int pa_nil))) pa_nil)) rfl)
      (pss_cons (ps_set (i := 3) nd rfl (Or.inl rfl) (pe_c C_law_curved hr (by decide) rfl (pa_cons (pv 2) (pa_cons (pv 5) (pa_cons (pv 6) pa_nil)))))
      (pss_cons (ps_set (i := 4) nd rfl (Or.inl rfl) (pe_lst (pa_cons (pe_callB (klen K) rfl T.b_len PySem.boot_len (pa_cons (pe_c C_labelings hr (by decide) rfl (pa_cons (pe_mk K_Halves hr (by decide) rfl (pa_cons (pv 5) pa_nil)) (pa_cons (pv 3) pa_nil))) pa_nil)) (pa_cons (pe_callB (klen K) rfl T.b_len PySem.boot_len (pa_cons (pe_c C_labelings hr (by decide) rfl (pa_cons (pe_mk K_Flats hr (by decide) rfl (pa_cons (pv 5) pa_nil)) (pa_cons (pv 3) pa_nil))) pa_nil)) pa_nil))))
      (pss_cons (ps_if (pt_not (pt_val (pe_c C_law_same hr (by decide) rfl (pa_cons (pv 4) (pa_cons (pe_lst (pa_cons (pe_c C_law_halves_of hr (by decide) rfl (pa_cons (pv 5) (pa_cons (pv 6) pa_nil))) (pa_cons (pe_c C_law_flats_of hr (by decide) rfl (pa_cons (pv 5) (pa_cons (pv 6) pa_nil))) pa_nil))) pa_nil))))) (pss_one (ps_ret pe_bl)) pss_nil)
      (pss_cons (ps_if (pt_not (pt_val (pe_c C_same_i hr (by decide) rfl (pa_cons (pe_c C_dimension hr (by decide) rfl (pa_cons (pe_mk K_Halves hr (by decide) rfl (pa_cons (pv 5) pa_nil)) (pa_cons (pv 3) pa_nil))) (pa_cons (pe_callB (call_min2 rfl) rfl T.b_min (by decide +kernel) (pa_cons (pv 6) (pa_cons (pe_op op_add (pv 5) pe_int) pa_nil))) pa_nil))))) (pss_one (ps_ret pe_bl)) pss_nil)
      (pss_cons (ps_if (PW.pt (pw_or (pt_not (pt_val (pe_c C_law_in_row_right hr (by decide) rfl (pa_cons (pv 2) (pa_cons (pv 5) (pa_cons (pv 6) pa_nil)))))) (pw_or1 (pt_not (pt_val (pe_c C_law_turns_right hr (by decide) rfl (pa_cons (pv 2) (pa_cons (pv 6) pa_nil)))))))) (pss_one (ps_ret pe_bl)) pss_nil)
      (pss_one (ps_if (PW.pt (pw_and (pt_cmpR op_gt (pv 5) pe_int (nomark _)) (pw_and1 (pt_not (pt_val (pe_c C_law_apart_right hr (by decide) rfl (pa_cons (pv 2) (pa_cons (pv 5) (pa_cons (pv 6) pa_nil))))))))) (pss_one (ps_ret pe_bl)) pss_nil))))))))))
      (pss_one (ps_ret pe_bl))), ?_⟩
  obtain ⟨N, hN, hN5⟩ : ∃ N : Nat, (N : Int) = 2 + (if (3 : Int) < ((ns.map V.int).length : Int) then 3 else ((ns.map V.int).length : Int)) ∧ N ≤ 5 := by
    refine ⟨2 + min 3 (ns.map V.int).length, ?_, by omega⟩
    split <;> omega
  refine ⟨_, rfl, a, _, rfl, .inl hS, _, _, rfl, _, _, rfl, rfl, (N : Int), congrArg (fun z => [V.int z]) hN.symm, by omega, by omega, for_it (by have z := walk_range (lo := 0) (n := (N : Int).toNat); rw [Int.toNat_natCast] at z ⊢; exact z) (fun i σ H' => ExtN H H' ∧ Tabs (TQ Pt) H' ∧ ∃ x1 x2 x3 x4 x5 x6, σ = [some (.ref a), x1, x2, x3, x4, x5, x6]) ⟨ExtN.refl _, hT, _, _, _, _, _, _, rfl⟩ (fun i σ H' _ h => trivial) (fun i y σ H0 H0' hi h hy => ?_) (fun σ H' h => ?_)⟩
  · obtain ⟨e0, hT0, x1, x2, x3, x4, x5, x6, rfl⟩ := h
    obtain ⟨rfl, rfl⟩ := hy
    have ez : (fun i : Nat => V.int (0 + (i : Int))) i = .int i := by show V.int (0 + (i : Int)) = _; rw [Int.zero_add]
    rw [ez]
    refine ⟨_, rfl, _, rfl, a, ns, i, rfl, sql_extn hS e0, by omega, fun d H1 hd e1 hD1 => ?_⟩
    have hT1 := hT0.ext e1
    refine ⟨_, rfl, d, 3, 0, rfl, by decide, by decide, hD1, by decide, fun r1 H2 r10 r13 e2 hD2 => ?_⟩
    obtain ⟨r1, rfl⟩ := Int.eq_ofNat_of_zero_le r10
    refine ⟨_, _, rfl, rfl, _, rfl, d, 6, 1, rfl, by decide, by decide, hD2, by decide, fun r2 H3 r20 r26 e3 hD3 => ?_⟩
    obtain ⟨n, rfl⟩ := Int.eq_ofNat_of_zero_le r20
    obtain ⟨dl1, hdl1⟩ := hD1.at
    obtain ⟨dl2, hdl2⟩ := hD2.at
    obtain ⟨dl3, hdl3⟩ := hD3.at
    have hT3 := tabs_exd (tabs_exd hT1 e2 hdl1) e3 hdl2
    obtain ⟨k, hk⟩ : ∃ k : Nat, k = 1 + r1 := ⟨_, rfl⟩
    have hk1 : 1 ≤ k := by omega
    have hk3 : k ≤ 3 := by omega
    have hn : n ≤ 5 := by omega
    have hkz : (1 : Int) + (r1 : Int) = (k : Int) := by omega
    refine ⟨_, _, rfl, ?_⟩
    have hv3 : [V.ref d, V.int (1 + (r1 : Int)), V.int (n : Int)] = [V.ref d, V.int (k : Int), V.int (n : Int)] := by rw [hkz]
    have hv2 : [V.int (1 + (r1 : Int)), V.int (n : Int)] = [V.int (k : Int), V.int (n : Int)] := by rw [hkz]
    have hlk : ∀ fs : List (Str × V), List.lookup ("places" : Str) (("places", V.int (1 + (r1 : Int))) :: fs) = some (V.int ((k : Nat) : Int)) := fun fs => by
      rw [hkz]
      rfl
    refine ⟨_, rfl, _, rfl, _, rfl, d, k, n, 2, hv3, hk3, by omega, hD3, by decide, fun q ts H4 hq e4 hL4 hts hD4 => ?_⟩
    have hL4 : Ls IsP H4 q (crv k ts) := hL4
    have hT4 := tabs_exd hT3 e4 hdl3
    have e14 : ExM d H1 H4 := ExM.ofD ((e2.trans e3).trans e4)
    have htl := hts.len
    have lps : ∀ p ∈ crv k ts, p.length = k ∧ RowB 7 p := fun p hp => by
      obtain ⟨t, ht, rfl⟩ := List.mem_map.mp hp
      refine ⟨by unfold curve; rw [List.length_take]; show min k 3 = k; omega, fun x hx => ?_⟩
      have hx := List.mem_of_mem_take hx
      have := hts.rg t ht
      have ht9 : t = -4 ∨ t = -3 ∨ t = -2 ∨ t = -1 ∨ t = 0 ∨ t = 1 ∨ t = 2 ∨ t = 3 ∨ t = 4 := by omega
      simp at hx
      rcases ht9 with rfl | rfl | rfl | rfl | rfl | rfl | rfl | rfl | rfl <;> rcases hx with rfl | rfl | rfl <;> exact bnd_small (by decide)
    have hll : (crv k ts).length = n := by unfold crv; rw [List.length_map]; exact htl
    have pts : Pts (k : Int) (crv k ts) := pts_of (by omega) hk3 (fun p hp => (lps p hp).1) (nodup_map (fun a b e => by
      have z := congrArg (fun l : List Int => l.getD 0 0) e
      have hk0 : 0 < k := by omega
      simpa [curve, List.getD, List.getElem?_take, hk0] using z) hts.nd)
    have k1' : 1 ≤ (Kd.halves k).places := hk1
    have k2' : 1 ≤ (Kd.flats k).places := hk1
    have askH : ∀ ls : List Bool, AskC (.halves k) ((crv k ts).zip ls) := ask_of (by omega) k1' hk3 lps (fun m e => by cases e)
    have askF : ∀ ls : List Bool, AskC (.flats k) ((crv k ts).zip ls) := ask_of (by omega) k2' hk3 lps (fun m e => by cases e)
    obtain ⟨pl1, pl2, pl3⟩ := PL.halves k n ts hk1 hk3 hn hts
    have pl4 := PL.flats k n ts hk1 hk3 hn hts
    have q1 : ((labsOf FitsC (.halves k) (crv k ts)).length : Int) = halvesOf k n := pl1
    have q3 : ((shatOf FitsC (.halves k) (crv k ts)).getLast?.getD []).length = min n (k + 1) := pl3
    have q4 : ((labsOf FitsC (.flats k) (crv k ts)).length : Int) = flatsOf k n := pl4
    -- the numbers of labelings
    refine ⟨_, rfl, fun x dx hx0 hdx hne' => ⟨x, dx, 1 + (r1 : Int), rfl, upd_same, by omega, by omega, fun H5 hk5 hx5 => ⟨rfl, ?_⟩⟩⟩
    have e5 := made_ex hx0 hdx hne' hk5
    have kat5 : KindAt c H5 x (.halves k) := ⟨dx, _, hx5, hlk _, trivial, rfl⟩
    have L5 := hL4.mono tst_P.sst e5
    refine ⟨_, rfl, x, q, .halves k, crv k ts, rfl, kat5, k1', hk3, L5, pts, by omega, askH, fun p1 H6 hp1 e6 hL6 => ?_⟩
    obtain ⟨ws, hp6, hws⟩ := hL6
    have hwl := hws.length
    refine ⟨p1, ws, rfl, .inl (SqL.of hp6), ?_⟩
    have L6 := L5.mono tst_P.sst e6
    refine ⟨_, rfl, fun x dx hx0 hdx hne' => ⟨x, dx, 1 + (r1 : Int), rfl, upd_same, by omega, by omega, fun H7 hk7 hx7 => ⟨rfl, ?_⟩⟩⟩
    have e7 := made_ex hx0 hdx hne' hk7
    have kat7 : KindAt c H7 x (.flats k) := ⟨dx, _, hx7, hlk _, trivial, rfl⟩
    have L7 := L6.mono tst_P.sst e7
    refine ⟨_, rfl, x, q, .flats k, crv k ts, rfl, kat7, k2', hk3, L7, pts, by omega, askF, fun p2 H8 hp2 e8 hL8 => ?_⟩
    obtain ⟨vs, hp8, hvs⟩ := hL8
    have hvl := hvs.length
    refine ⟨p2, vs, rfl, .inl (SqL.of hp8), by show 2 ≤ sizeLine; decide, fun F hF => ?_⟩
    rw [hwl, hvl, q1, q4]
    have eF := Ex.new (o := .lst [.int (halvesOf k n), .int (flatsOf k n)]) hF
    have hFs : (upd H8 F (.lst [.int (halvesOf k n), .int (flatsOf k n)])) F = some (.lst [.int (halvesOf k n), .int (flatsOf k n)]) := upd_same
    generalize upd H8 F (.lst [.int (halvesOf k n), .int (flatsOf k n)]) = H9 at eF hFs ⊢
    have L9 := (L7.mono tst_P.sst e8).mono tst_P.sst eF
    refine ⟨_, rfl, _, rfl, _, rfl, k, n, hv2, hk3, hn, fun H10 e10 => ?_⟩
    refine ⟨_, rfl, _, rfl, k, n, hv2, hk3, hn, fun H11 e11 => ?_⟩
    refine ⟨by show 2 ≤ sizeLine; decide, fun G hG => ?_⟩
    have eG := Ex.new (o := .lst [.int (halvesOf k n), .int (flatsOf k n)]) hG
    have e911 := e10.trans e11
    refine ⟨F, G, [halvesOf k n, flatsOf k n], [halvesOf k n, flatsOf k n], rfl, eG _ _ (e911 _ _ hFs), upd_same, by show 2 ≤ 100; decide, fun H12 e12 => ?_⟩
    rw [decide_eq_true rfl]
    refine ⟨true, rfl, iteF ?_⟩
    have e912 := (e911.trans eG).trans e12
    have L12 := L9.mono tst_P.sst e912
    -- the dimension
    refine ⟨_, rfl, fun x dx hx0 hdx hne' => ⟨x, dx, 1 + (r1 : Int), rfl, upd_same, by omega, by omega, fun H13 hk13 hx13 => ⟨rfl, ?_⟩⟩⟩
    have e13 := made_ex hx0 hdx hne' hk13
    have kat13 : KindAt c H13 x (.halves k) := ⟨dx, _, hx13, hlk _, trivial, rfl⟩
    refine ⟨_, rfl, x, q, .halves k, crv k ts, rfl, kat13, k1', hk3, L12.mono tst_P.sst e13, pts, by omega, askH, pl2, fun H14 e14' => ?_⟩
    refine ⟨_, rfl, _, rfl, _, _, rfl, rfl, _, _, rfl, _, _, rfl, fun H15 e15 => ?_⟩
    have hdm : decide ((((shatOf FitsC (.halves k) (crv k ts)).getLast?.getD []).length : Int) = (if 1 + (r1 : Int) + 1 < (n : Int) then 1 + (r1 : Int) + 1 else (n : Int))) = true := by
      rw [q3]
      refine decide_eq_true ?_
      split <;> omega
    rw [hdm]
    refine ⟨true, rfl, iteF ?_⟩
    have e415 : Ex H4 H15 := ((((e5.trans e6).trans e7).trans e8).trans eF).trans (((e912.trans e13).trans e14').trans e15)
    have hT15 := hT4.ext e415
    have hD15 := hD4.ex e415
    have e115 := e14.trans (ExM.of e415)
    have done : ∀ H', ExM d H1 H' → ExtN H H' := fun H' e b o hb hn' => e b o (e1 _ _ (e0 b o hb hn')) hn' (ne_of_none (e0 b o hb hn') hd)
    refine ⟨_, rfl, _, rfl, _, rfl, d, k, n, 11, hv3, hk1, hk3, hn, hD15, by decide, hT15, fun H16 e16 hD16 hT16 => ⟨true, rfl, iteF ?_⟩⟩
    refine ⟨_, rfl, _, rfl, d, n, 31, rfl, hn, hD16, by decide, hT16, fun H17 e17 hD17 hT17 => ⟨true, rfl, iteF ?_⟩⟩
    have e117 := (e115.trans e16).trans e17
    refine ⟨_, rfl, _, _, rfl, rfl, _, rfl, ?_⟩
    refine iteB (b := decide ((1 : Int) < 1 + (r1 : Int))) (fun h => ?_) (fun h => ?_)
    · have h := of_decide_eq_true h
      refine ⟨_, rfl, _, rfl, _, rfl, d, k, n, 51, hv3, by omega, hk3, hn, hD17, by decide, hT17, fun H18 e18 hD18 hT18 => ⟨true, rfl, iteF ?_⟩⟩
      exact ⟨done _ (e117.trans e18), hT18, _, _, _, _, _, _, rfl⟩
    · exact ⟨done _ e117, hT17, _, _, _, _, _, _, rfl⟩
  · exact hQ H'
end
end K49

namespace K49
open PySem PySem.Spec PyProof.Rows L2
open C8 (Cal Met Mak)
theorem span_bind (kV doc pm : Value) (an : Option Addr) (cdv ct : Value) (us rest : List Value) (hl : us.length = 1) : bindArgs (PySem.W.fnOf "span_rows" "span_rows" (defArgs s_span_rows) (defBody s_span_rows) (defScope s_span_rows) .none kV doc pm an cdv ct) ⟨us ++ rest, []⟩ = (newTuple rest >>= fun t => pure ((["points"] : List Str).zip us ++ [(("ends" : Str), t)])) := by
  match us, hl with
  | [a], _ =>
    cases rest with
    | nil => rfl
    | cons b r => rfl
section
variable {P : Program} {w : World} {K : PySem.W.Frag} {mg : Str → Option Value} {base : Heap}
theorem dfn_of {x : Str} {st : Stmt} {ps : List Str} {kws : List (Str × V)} {f : Addr} (F : ∃ fd, FunD K x x (defArgs st) (defBody st) (defScope st) [] kws f fd) (g : mg x = some (.ref f))
    (h : ∀ (kV doc pm : Value) (an : Option Addr) (cdv ct : Value) (us : List Value), us.length = ps.length → bindArgs (PySem.W.fnOf x x (defArgs st) (defBody st) (defScope st) .none kV doc pm an cdv ct) ⟨us, []⟩ = pure (ps.zip us)) : Dfn K mg x st ps [] := by
  obtain ⟨fd, F⟩ := F
  exact ⟨f, fd, [], kws, [], F, g, F.bindsN h, .nil⟩
theorem mth_of {C f : Addr} {m qual : Str} {st : Stmt} {ps : List Str} {kws : List (Str × V)} (F : ∃ fd, FunD K m qual (defArgs st) (defBody st) (defScope st) [] kws f fd) (g : Meth K C m f) (cl : Cls K C)
    (h : ∀ (kV doc pm : Value) (an : Option Addr) (cdv ct : Value) (us : List Value), us.length = ps.length → bindArgs (PySem.W.fnOf m qual (defArgs st) (defBody st) (defScope st) .none kV doc pm an cdv ct) ⟨us, []⟩ = pure (ps.zip us)) : Mth K C m qual st ps [] := by
  obtain ⟨fd, F⟩ := F
  exact ⟨⟨f, fd, [], kws, [], F, g, F.bindsN h, .nil⟩, cl⟩
theorem mkr_of {x : Str} {C f : Addr} {qual : Str} {st : Stmt} {ps : List Str} {kws : List (Str × V)} (F : ∃ fd, FunD K "__init__" qual (defArgs st) (defBody st) (defScope st) [] kws f fd) (g : mg x = some (.ref C)) (m : Mk K C f) (cl : Cls K C)
    (h : ∀ (kV doc pm : Value) (an : Option Addr) (cdv ct : Value) (us : List Value), us.length = ps.length → bindArgs (PySem.W.fnOf "__init__" qual (defArgs st) (defBody st) (defScope st) .none kV doc pm an cdv ct) ⟨us, []⟩ = pure (ps.zip us)) : Mkr K mg x C qual st ps := by
  obtain ⟨fd, F⟩ := F
  exact ⟨⟨f, fd, [], kws, F, m, F.bindsN h⟩, g, cl⟩
/-- all that the law leans on, up to the law itself -/
theorem law_all (PL : PLaw) {h : Heap} (hP : P.main.file = PySem.Challenge.rw_toldenough_k49_whole_labelings_counted.prog.main.file) (htop : (P.main.scope.names.lookup ("super" : Str)).isSome = false) (X : K.In h) (G : h.Ns mainGlobals mg) (c : He.SaysD fa fn K) (e1 : He.fnW K ("Turns", some "__init__") = tiVal) (e2 : tiB K = true) (TB : LamX.TabB base mg 1331 PTA) :
    CalP P w K mg base 13 "law" (spLaw K PTA) ["_law_script"] := by
  have T : Txt mg := ⟨He.free_ok X G (c.fact 63 (f := .free "isinstance") rfl), He.free_ok X G (c.fact 64 (f := .free "int") rfl), He.free_ok X G (c.fact 65 (f := .free "bool") rfl), He.free_ok X G (c.fact 66 (f := .free "list") rfl), He.free_ok X G (c.fact 67 (f := .free "tuple") rfl), He.free_ok X G (c.fact 68 (f := .free "len") rfl), He.free_ok X G (c.fact 69 (f := .free "all") rfl), He.free_ok X G (c.fact 70 (f := .free "any") rfl), He.free_ok X G (c.fact 71 (f := .free "range") rfl), He.free_ok X G (c.fact 72 (f := .free "enumerate") rfl), He.free_ok X G (c.fact 73 (f := .free "zip") rfl), He.free_ok X G (c.fact 74 (f := .free "sorted") rfl), He.free_ok X G (c.fact 75 (f := .free "min") rfl), He.free_ok X G (c.fact 76 (f := .free "max") rfl), He.free_ok X G (c.fact 77 (f := .free "sum") rfl), He.free_ok X G (c.fact 78 (f := .free "super") rfl), let ⟨t, e⟩ := He.int_ok X G (c.fact 79 (f := .int "MOST_PLACES" 3) rfl); ⟨_, e, t, rfl⟩, let ⟨t, e⟩ := He.int_ok X G (c.fact 80 (f := .int "MOST_TURNS" 6) rfl); ⟨_, e, t, rfl⟩⟩
  have D_is_integer : Dfn K mg "is_integer" s_is_integer ["thing"] [] := dfn_of (c.def_ 0 (d := d_is_integer) rfl) (He.glo_ok X G (c.fact 0 (f := .glo "is_integer") rfl)) (fun _ _ _ _ _ _ us hl => match us, hl with | [_], _ => rfl)
  have D_is_list : Dfn K mg "is_list" s_is_list ["thing"] [] := dfn_of (c.def_ 1 (d := d_is_list) rfl) (He.glo_ok X G (c.fact 1 (f := .glo "is_list") rfl)) (fun _ _ _ _ _ _ us hl => match us, hl with | [_], _ => rfl)
  have D_is_point : Dfn K mg "is_point" s_is_point ["thing", "places"] [] := dfn_of (c.def_ 2 (d := d_is_point) rfl) (He.glo_ok X G (c.fact 2 (f := .glo "is_point") rfl)) (fun _ _ _ _ _ _ us hl => match us, hl with | [_, _], _ => rfl)
  have D_check_places : Dfn K mg "check_places" s_check_places ["places"] [] := dfn_of (c.def_ 3 (d := d_check_places) rfl) (He.glo_ok X G (c.fact 3 (f := .glo "check_places") rfl)) (fun _ _ _ _ _ _ us hl => match us, hl with | [_], _ => rfl)
  have D_check_point : Dfn K mg "check_point" s_check_point ["point", "places"] [] := dfn_of (c.def_ 4 (d := d_check_point) rfl) (He.glo_ok X G (c.fact 4 (f := .glo "check_point") rfl)) (fun _ _ _ _ _ _ us hl => match us, hl with | [_, _], _ => rfl)
  have D_parts_of : Dfn K mg "parts_of" s_parts_of ["size", "many"] [] := dfn_of (c.def_ 5 (d := d_parts_of) rfl) (He.glo_ok X G (c.fact 5 (f := .glo "parts_of") rfl)) (fun _ _ _ _ _ _ us hl => match us, hl with | [_, _], _ => rfl)
  have D_all_parts : Dfn K mg "all_parts" s_all_parts ["size"] [] := dfn_of (c.def_ 6 (d := d_all_parts) rfl) (He.glo_ok X G (c.fact 6 (f := .glo "all_parts") rfl)) (fun _ _ _ _ _ _ us hl => match us, hl with | [_], _ => rfl)
  have D_is_example : Dfn K mg "is_example" s_is_example ["thing", "places"] [] := dfn_of (c.def_ 7 (d := d_is_example) rfl) (He.glo_ok X G (c.fact 7 (f := .glo "is_example") rfl)) (fun _ _ _ _ _ _ us hl => match us, hl with | [_, _], _ => rfl)
  have D_checked_rows : Dfn K mg "checked_rows" s_checked_rows ["examples", "places"] [] := dfn_of (c.def_ 8 (d := d_checked_rows) rfl) (He.glo_ok X G (c.fact 8 (f := .glo "checked_rows") rfl)) (fun _ _ _ _ _ _ us hl => match us, hl with | [_, _], _ => rfl)
  have D_view_of : Dfn K mg "view_of" s_view_of ["sample", "given"] [] := dfn_of (c.def_ 9 (d := d_view_of) rfl) (He.glo_ok X G (c.fact 9 (f := .glo "view_of") rfl)) (fun _ _ _ _ _ _ us hl => match us, hl with | [_, _], _ => rfl)
  have D_checked_points : Dfn K mg "checked_points" s_checked_points ["kind", "points"] [] := dfn_of (c.def_ 11 (d := d_checked_points) rfl) (He.glo_ok X G (c.fact 11 (f := .glo "checked_points") rfl)) (fun _ _ _ _ _ _ us hl => match us, hl with | [_, _], _ => rfl)
  have D_is_given : Dfn K mg "is_given" s_is_given ["kind", "points", "labels"] [] := dfn_of (c.def_ 12 (d := d_is_given) rfl) (He.glo_ok X G (c.fact 12 (f := .glo "is_given") rfl)) (fun _ _ _ _ _ _ us hl => match us, hl with | [_, _, _], _ => rfl)
  have D_labelings : Dfn K mg "labelings" s_labelings ["kind", "points"] [] := dfn_of (c.def_ 13 (d := d_labelings) rfl) (He.glo_ok X G (c.fact 13 (f := .glo "labelings") rfl)) (fun _ _ _ _ _ _ us hl => match us, hl with | [_, _], _ => rfl)
  have D_is_shattered : Dfn K mg "is_shattered" s_is_shattered ["rows", "part"] [] := dfn_of (c.def_ 14 (d := d_is_shattered) rfl) (He.glo_ok X G (c.fact 14 (f := .glo "is_shattered") rfl)) (fun _ _ _ _ _ _ us hl => match us, hl with | [_, _], _ => rfl)
  have D_shattered : Dfn K mg "shattered" s_shattered ["kind", "points"] [] := dfn_of (c.def_ 15 (d := d_shattered) rfl) (He.glo_ok X G (c.fact 15 (f := .glo "shattered") rfl)) (fun _ _ _ _ _ _ us hl => match us, hl with | [_, _], _ => rfl)
  have D_dimension : Dfn K mg "dimension" s_dimension ["kind", "points"] [] := dfn_of (c.def_ 16 (d := d_dimension) rfl) (He.glo_ok X G (c.fact 16 (f := .glo "dimension") rfl)) (fun _ _ _ _ _ _ us hl => match us, hl with | [_, _], _ => rfl)
  have D_least_price : Dfn K mg "least_price" s_least_price ["columns", "rhs", "prices"] [] := dfn_of (c.def_ 17 (d := d_least_price) rfl) (He.glo_ok X G (c.fact 17 (f := .glo "least_price") rfl)) (fun _ _ _ _ _ _ us hl => match us, hl with | [_, _, _], _ => rfl)
  have D_with_label : Dfn K mg "with_label" s_with_label ["view", "label"] [] := dfn_of (c.def_ 18 (d := d_with_label) rfl) (He.glo_ok X G (c.fact 18 (f := .glo "with_label") rfl)) (fun _ _ _ _ _ _ us hl => match us, hl with | [_, _], _ => rfl)
  have D_judge_half : Dfn K mg "judge_half" s_judge_half ["places", "view"] [] := dfn_of (c.def_ 19 (d := d_judge_half) rfl) (He.glo_ok X G (c.fact 19 (f := .glo "judge_half") rfl)) (fun _ _ _ _ _ _ us hl => match us, hl with | [_, _], _ => rfl)
  have D_box_bounds : Dfn K mg "box_bounds" s_box_bounds ["places", "points"] [] := dfn_of (c.def_ 20 (d := d_box_bounds) rfl) (He.glo_ok X G (c.fact 20 (f := .glo "box_bounds") rfl)) (fun _ _ _ _ _ _ us hl => match us, hl with | [_, _], _ => rfl)
  have D_is_inside : Dfn K mg "is_inside" s_is_inside ["point", "ranges"] [] := dfn_of (c.def_ 21 (d := d_is_inside) rfl) (He.glo_ok X G (c.fact 21 (f := .glo "is_inside") rfl)) (fun _ _ _ _ _ _ us hl => match us, hl with | [_, _], _ => rfl)
  have D_judge_box : Dfn K mg "judge_box" s_judge_box ["places", "view"] [] := dfn_of (c.def_ 22 (d := d_judge_box) rfl) (He.glo_ok X G (c.fact 22 (f := .glo "judge_box") rfl)) (fun _ _ _ _ _ _ us hl => match us, hl with | [_, _], _ => rfl)
  have D_cleared_row : Dfn K mg "cleared_row" s_cleared_row ["row", "head", "column"] [] := dfn_of (c.def_ 23 (d := d_cleared_row) rfl) (He.glo_ok X G (c.fact 23 (f := .glo "cleared_row") rfl)) (fun _ _ _ _ _ _ us hl => match us, hl with | [_, _, _], _ => rfl)
  have D_reduced_rows : Dfn K mg "reduced_rows" s_reduced_rows ["rows", "many"] [] := dfn_of (c.def_ 24 (d := d_reduced_rows) rfl) (He.glo_ok X G (c.fact 24 (f := .glo "reduced_rows") rfl)) (fun _ _ _ _ _ _ us hl => match us, hl with | [_, _], _ => rfl)
  have D_weights_for : Dfn K mg "weights_for" s_weights_for ["points", "point"] [] := dfn_of (c.def_ 26 (d := d_weights_for) rfl) (He.glo_ok X G (c.fact 26 (f := .glo "weights_for") rfl)) (fun _ _ _ _ _ _ us hl => match us, hl with | [_, _], _ => rfl)
  have D_judge_flat : Dfn K mg "judge_flat" s_judge_flat ["view"] [] := dfn_of (c.def_ 27 (d := d_judge_flat) rfl) (He.glo_ok X G (c.fact 27 (f := .glo "judge_flat") rfl)) (fun _ _ _ _ _ _ us hl => match us, hl with | [_], _ => rfl)
  have D_is_below : Dfn K mg "is_below" s_is_below ["one", "other"] [] := dfn_of (c.def_ 28 (d := d_is_below) rfl) (He.glo_ok X G (c.fact 28 (f := .glo "is_below") rfl)) (fun _ _ _ _ _ _ us hl => match us, hl with | [_, _], _ => rfl)
  have D_judge_rise : Dfn K mg "judge_rise" s_judge_rise ["view"] [] := dfn_of (c.def_ 29 (d := d_judge_rise) rfl) (He.glo_ok X G (c.fact 29 (f := .glo "judge_rise") rfl)) (fun _ _ _ _ _ _ us hl => match us, hl with | [_], _ => rfl)
  have D_in_order : Dfn K mg "in_order" s_in_order ["view"] [] := dfn_of (c.def_ 30 (d := d_in_order) rfl) (He.glo_ok X G (c.fact 30 (f := .glo "in_order") rfl)) (fun _ _ _ _ _ _ us hl => match us, hl with | [_], _ => rfl)
  have D_judge_turns : Dfn K mg "judge_turns" s_judge_turns ["most", "view"] [] := dfn_of (c.def_ 31 (d := d_judge_turns) rfl) (He.glo_ok X G (c.fact 31 (f := .glo "judge_turns") rfl)) (fun _ _ _ _ _ _ us hl => match us, hl with | [_, _], _ => rfl)
  have D_agree : Dfn K mg "agree" s_agree ["one", "other", "part"] [] := dfn_of (c.def_ 32 (d := d_agree) rfl) (He.glo_ok X G (c.fact 32 (f := .glo "agree") rfl)) (fun _ _ _ _ _ _ us hl => match us, hl with | [_, _, _], _ => rfl)
  have D_first_part : Dfn K mg "first_part" s_first_part ["rows", "labels"] [] := dfn_of (c.def_ 33 (d := d_first_part) rfl) (He.glo_ok X G (c.fact 33 (f := .glo "first_part") rfl)) (fun _ _ _ _ _ _ us hl => match us, hl with | [_, _], _ => rfl)
  have D_teaching_number : Dfn K mg "teaching_number" s_teaching_number ["kind", "points"] [] := dfn_of (c.def_ 34 (d := d_teaching_number) rfl) (He.glo_ok X G (c.fact 34 (f := .glo "teaching_number") rfl)) (fun _ _ _ _ _ _ us hl => match us, hl with | [_, _], _ => rfl)
  have D_checked_prices : Dfn K mg "checked_prices" s_checked_prices ["points", "prices"] [] := dfn_of (c.def_ 35 (d := d_checked_prices) rfl) (He.glo_ok X G (c.fact 35 (f := .glo "checked_prices") rfl)) (fun _ _ _ _ _ _ us hl => match us, hl with | [_, _], _ => rfl)
  have D_halved : Dfn K mg "halved" s_halved ["rows", "index"] [] := dfn_of (c.def_ 36 (d := d_halved) rfl) (He.glo_ok X G (c.fact 36 (f := .glo "halved") rfl)) (fun _ _ _ _ _ _ us hl => match us, hl with | [_, _], _ => rfl)
  have D_asked : Dfn K mg "asked" s_asked ["kind", "points", "prices"] [] := dfn_of (c.def_ 38 (d := d_asked) rfl) (He.glo_ok X G (c.fact 38 (f := .glo "asked") rfl)) (fun _ _ _ _ _ _ us hl => match us, hl with | [_, _, _], _ => rfl)
  have D_depth_of : Dfn K mg "depth_of" s_depth_of ["rows", "known"] [] := dfn_of (c.def_ 40 (d := d_depth_of) rfl) (He.glo_ok X G (c.fact 40 (f := .glo "depth_of") rfl)) (fun _ _ _ _ _ _ us hl => match us, hl with | [_, _], _ => rfl)
  have D_mistakes : Dfn K mg "mistakes" s_mistakes ["kind", "points"] [] := dfn_of (c.def_ 41 (d := d_mistakes) rfl) (He.glo_ok X G (c.fact 41 (f := .glo "mistakes") rfl)) (fun _ _ _ _ _ _ us hl => match us, hl with | [_, _], _ => rfl)
  have D_law_source : Dfn K mg "_law_source" s_law_source ["_law_script", "_law_at"] [] := dfn_of (c.def_ 42 (d := d_law_source) rfl) (He.glo_ok X G (c.fact 42 (f := .glo "_law_source") rfl)) (fun _ _ _ _ _ _ us hl => match us, hl with | [_, _], _ => rfl)
  have D_law_draw : Dfn K mg "_law_draw" s_law_draw ["_law_draws", "_law_many"] [] := dfn_of (c.def_ 43 (d := d_law_draw) rfl) (He.glo_ok X G (c.fact 43 (f := .glo "_law_draw") rfl)) (fun _ _ _ _ _ _ us hl => match us, hl with | [_, _], _ => rfl)
  have D_law_mixed : Dfn K mg "_law_mixed" s_law_mixed ["_law_draws", "_law_things"] [] := dfn_of (c.def_ 44 (d := d_law_mixed) rfl) (He.glo_ok X G (c.fact 44 (f := .glo "_law_mixed") rfl)) (fun _ _ _ _ _ _ us hl => match us, hl with | [_, _], _ => rfl)
  have D_law_same : Dfn K mg "_law_same" s_law_same ["_law_found", "_law_due"] [] := dfn_of (c.def_ 45 (d := d_law_same) rfl) (He.glo_ok X G (c.fact 45 (f := .glo "_law_same") rfl)) (fun _ _ _ _ _ _ us hl => match us, hl with | [_, _], _ => rfl)
  have D_law_choices : Dfn K mg "_law_choices" s_law_choices ["_law_many", "_law_taken"] [] := dfn_of (c.def_ 46 (d := d_law_choices) rfl) (He.glo_ok X G (c.fact 46 (f := .glo "_law_choices") rfl)) (fun _ _ _ _ _ _ us hl => match us, hl with | [_, _], _ => rfl)
  have D_law_halvings : Dfn K mg "_law_halvings" s_law_halvings ["_law_many"] [] := dfn_of (c.def_ 47 (d := d_law_halvings) rfl) (He.glo_ok X G (c.fact 47 (f := .glo "_law_halvings") rfl)) (fun _ _ _ _ _ _ us hl => match us, hl with | [_], _ => rfl)
  have D_law_rises : Dfn K mg "_law_rises" s_law_rises ["_law_draws", "_law_many"] [] := dfn_of (c.def_ 48 (d := d_law_rises) rfl) (He.glo_ok X G (c.fact 48 (f := .glo "_law_rises") rfl)) (fun _ _ _ _ _ _ us hl => match us, hl with | [_, _], _ => rfl)
  have D_law_curved : Dfn K mg "_law_curved" s_law_curved ["_law_draws", "_law_places", "_law_many"] [] := dfn_of (c.def_ 49 (d := d_law_curved) rfl) (He.glo_ok X G (c.fact 49 (f := .glo "_law_curved") rfl)) (fun _ _ _ _ _ _ us hl => match us, hl with | [_, _, _], _ => rfl)
  have D_law_halves_of : Dfn K mg "_law_halves_of" s_law_halves_of ["_law_places", "_law_many"] [] := dfn_of (c.def_ 50 (d := d_law_halves_of) rfl) (He.glo_ok X G (c.fact 50 (f := .glo "_law_halves_of") rfl)) (fun _ _ _ _ _ _ us hl => match us, hl with | [_, _], _ => rfl)
  have D_law_flats_of : Dfn K mg "_law_flats_of" s_law_flats_of ["_law_places", "_law_many"] [] := dfn_of (c.def_ 51 (d := d_law_flats_of) rfl) (He.glo_ok X G (c.fact 51 (f := .glo "_law_flats_of") rfl)) (fun _ _ _ _ _ _ us hl => match us, hl with | [_, _], _ => rfl)
  have D_law_in_row_right : Dfn K mg "_law_in_row_right" s_law_in_row_right ["_law_draws", "_law_places", "_law_many"] [] := dfn_of (c.def_ 52 (d := d_law_in_row_right) rfl) (He.glo_ok X G (c.fact 52 (f := .glo "_law_in_row_right") rfl)) (fun _ _ _ _ _ _ us hl => match us, hl with | [_, _, _], _ => rfl)
  have D_law_apart_right : Dfn K mg "_law_apart_right" s_law_apart_right ["_law_draws", "_law_places", "_law_many"] [] := dfn_of (c.def_ 53 (d := d_law_apart_right) rfl) (He.glo_ok X G (c.fact 53 (f := .glo "_law_apart_right") rfl)) (fun _ _ _ _ _ _ us hl => match us, hl with | [_, _, _], _ => rfl)
  have D_law_turns_right : Dfn K mg "_law_turns_right" s_law_turns_right ["_law_draws", "_law_many"] [] := dfn_of (c.def_ 54 (d := d_law_turns_right) rfl) (He.glo_ok X G (c.fact 54 (f := .glo "_law_turns_right") rfl)) (fun _ _ _ _ _ _ us hl => match us, hl with | [_, _], _ => rfl)
  have D_law : Dfn K mg "law" s_law ["_law_script"] [] := dfn_of (c.def_ 55 (d := d_law) rfl) (He.glo_ok X G (c.fact 55 (f := .glo "law") rfl)) (fun _ _ _ _ _ _ us hl => match us, hl with | [_], _ => rfl)
  have D_has_rule : Dfn K mg "has_rule" s_has_rule ["kind", "sample", "given"] [.non] := by
    obtain ⟨fd, F⟩ := c.def_ 10 (d := d_has_rule) rfl
    have F : FunD K "has_rule" "has_rule" (defArgs s_has_rule) (defBody s_has_rule) (defScope s_has_rule) [.non] [] (He.ga K "has_rule") fd := F
    obtain ⟨ds, v, b⟩ := FunD.binds1 (ps := ["kind", "sample", "given"]) F 2 0 (fun h => nomatch h) rfl (fun _ _ _ _ _ _ _ us its h1 h2 => match us, its, h1, h2 with | [_, _], [_], _, _ => ⟨_, rfl, rfl⟩)
    exact ⟨_, fd, _, _, ds, F, (He.glo_ok X G (c.fact 10 (f := .glo "has_rule") rfl)), b, v⟩
  have D_asks : Dfn K mg "asks" s_asks ["kind", "points", "prices"] [.non] := by
    obtain ⟨fd, F⟩ := c.def_ 39 (d := d_asks) rfl
    have F : FunD K "asks" "asks" (defArgs s_asks) (defBody s_asks) (defScope s_asks) [] [("prices", .non)] (He.ga K "asks") fd := F
    obtain ⟨ds, v, b⟩ := FunD.binds0 (ps := ["kind", "points", "prices"]) F 2 (fun h => nomatch h) rfl (fun _ _ _ _ _ _ us ks h1 h2 => match us, ks, h1, h2 with | [_, _], [_], _, _ => ⟨_, _, _, _, _, _, rfl, rfl, rfl⟩)
    exact ⟨_, fd, _, _, ds, F, (He.glo_ok X G (c.fact 39 (f := .glo "asks") rfl)), b, v⟩
  have D_span_rows : DfnStar K mg "span_rows" s_span_rows ["points"] "ends" := by
    obtain ⟨fd, F⟩ := c.def_ 25 (d := d_span_rows) rfl
    exact ⟨⟨_, fd, _, F, (He.glo_ok X G (c.fact 25 (f := .glo "span_rows") rfl))⟩, span_bind⟩
  obtain ⟨t1, t2⟩ := He.ba e2
  obtain ⟨t2, t3⟩ := He.ba t2
  obtain ⟨t3, t4⟩ := He.ba t3
  obtain ⟨t4, t5⟩ := He.ba t4
  obtain ⟨t5, t6⟩ := He.ba t5
  obtain ⟨t6, t7⟩ := He.ba t6
  obtain ⟨t7, t8⟩ := He.ba t7
  obtain ⟨t8, t9⟩ := He.ba t8
  obtain ⟨t9, t10⟩ := He.ba t9
  obtain ⟨t10, t11⟩ := He.ba t10
  obtain ⟨t11, t12⟩ := He.ba t11
  obtain ⟨t12, t13⟩ := He.ba t12
  obtain ⟨t13, t14⟩ := He.ba t13
  have D_cheapest : DfnC K mg "cheapest" s_cheapest ["rows", "prices", "known"] [] 1331 := by
    obtain ⟨fd, F⟩ := c.def_ 37 (d := d_cheapest) rfl
    refine ⟨_, fd, _, _, [], F, ?_, (He.glo_ok X G (c.fact 37 (f := .glo "cheapest") rfl)), F.bindsN (fun _ _ _ _ _ _ us hl => match us, hl with | [_, _, _], _ => rfl), .nil⟩
    obtain ⟨oc, od, dV, kV, doc, pm, an, cdv, ct, osl, rfl, lk, _⟩ := F.ex
    have lk : K.lookup (He.ga K "cheapest") = _ := lk
    rw [lk] at t14
    cases cdv with
    | ref a => exact congrArg Value.ref (of_decide_eq_true t14)
    | _ => cases t14
  have L_Sample : Cls K (He.ga K "Sample") := He.cls_ok (c.fact 81 (f := .cls "Sample") rfl)
  have W_Sample : Mk K (He.ga K "Sample") (He.ma K (He.ga K "Sample") "__init__") := He.mkr_ok (c.fact 82 (f := .mkr "Sample") rfl)
  have N_Sample_places : NoAttr K (He.ga K "Sample") "places" := He.noat_ok (c.fact 84 (f := .noat "Sample" "places") rfl)
  have N_Sample_rows : NoAttr K (He.ga K "Sample") "rows" := He.noat_ok (c.fact 85 (f := .noat "Sample" "rows") rfl)
  have L_Table : Cls K (He.ga K "Table") := He.cls_ok (c.fact 86 (f := .cls "Table") rfl)
  have W_Table : Mk K (He.ga K "Table") (He.ma K (He.ga K "Table") "__init__") := He.mkr_ok (c.fact 87 (f := .mkr "Table") rfl)
  have N_Table_many : NoAttr K (He.ga K "Table") "many" := He.noat_ok (c.fact 89 (f := .noat "Table" "many") rfl)
  have N_Table_signs : NoAttr K (He.ga K "Table") "signs" := He.noat_ok (c.fact 90 (f := .noat "Table" "signs") rfl)
  have N_Table_rows : NoAttr K (He.ga K "Table") "rows" := He.noat_ok (c.fact 91 (f := .noat "Table" "rows") rfl)
  have N_Table_basis : NoAttr K (He.ga K "Table") "basis" := He.noat_ok (c.fact 92 (f := .noat "Table" "basis") rfl)
  have N_Table_scale : NoAttr K (He.ga K "Table") "scale" := He.noat_ok (c.fact 93 (f := .noat "Table" "scale") rfl)
  have L_Halves : Cls K (He.ga K "Halves") := He.cls_ok (c.fact 94 (f := .cls "Halves") rfl)
  have W_Halves : Mk K (He.ga K "Halves") (He.ma K (He.ga K "Halves") "__init__") := He.mkr_ok (c.fact 95 (f := .mkr "Halves") rfl)
  have N_Halves_places : NoAttr K (He.ga K "Halves") "places" := He.noat_ok (c.fact 97 (f := .noat "Halves" "places") rfl)
  have L_Boxes : Cls K (He.ga K "Boxes") := He.cls_ok (c.fact 98 (f := .cls "Boxes") rfl)
  have W_Boxes : Mk K (He.ga K "Boxes") (He.ma K (He.ga K "Boxes") "__init__") := He.mkr_ok (c.fact 99 (f := .mkr "Boxes") rfl)
  have N_Boxes_places : NoAttr K (He.ga K "Boxes") "places" := He.noat_ok (c.fact 101 (f := .noat "Boxes" "places") rfl)
  have L_Rising : Cls K (He.ga K "Rising") := He.cls_ok (c.fact 102 (f := .cls "Rising") rfl)
  have W_Rising : Mk K (He.ga K "Rising") (He.ma K (He.ga K "Rising") "__init__") := He.mkr_ok (c.fact 103 (f := .mkr "Rising") rfl)
  have N_Rising_places : NoAttr K (He.ga K "Rising") "places" := He.noat_ok (c.fact 105 (f := .noat "Rising" "places") rfl)
  have L_Flats : Cls K (He.ga K "Flats") := He.cls_ok (c.fact 106 (f := .cls "Flats") rfl)
  have W_Flats : Mk K (He.ga K "Flats") (He.ma K (He.ga K "Flats") "__init__") := He.mkr_ok (c.fact 107 (f := .mkr "Flats") rfl)
  have N_Flats_places : NoAttr K (He.ga K "Flats") "places" := He.noat_ok (c.fact 109 (f := .noat "Flats" "places") rfl)
  have L_Turns : Cls K (He.ga K "Turns") := He.cls_ok (c.fact 110 (f := .cls "Turns") rfl)
  have W_Turns : Mk K (He.ga K "Turns") (He.ma K (He.ga K "Turns") "__init__") := He.mkr_ok (c.fact 111 (f := .mkr "Turns") rfl)
  have N_Turns_places : NoAttr K (He.ga K "Turns") "places" := He.noat_ok (c.fact 113 (f := .noat "Turns" "places") rfl)
  have N_Turns_most : NoAttr K (He.ga K "Turns") "most" := He.noat_ok (c.fact 114 (f := .noat "Turns" "most") rfl)
  have D_Sample_examples : Mth K (He.ga K "Sample") "examples" "Sample.examples" s_Sample_examples ["self"] [] := mth_of (c.def_ 57 (d := d_Sample_examples) rfl) (He.meth_ok (c.fact 115 (f := .meth "Sample" "examples") rfl)) L_Sample (fun _ _ _ _ _ _ us hl => match us, hl with | [_], _ => rfl)
  have D_Table_pivot : Mth K (He.ga K "Table") "pivot" "Table.pivot" s_Table_pivot ["self", "at", "goal", "column"] [] := mth_of (c.def_ 59 (d := d_Table_pivot) rfl) (He.meth_ok (c.fact 116 (f := .meth "Table" "pivot") rfl)) L_Table (fun _ _ _ _ _ _ us hl => match us, hl with | [_, _, _, _], _ => rfl)
  have D_Table_cleared : Mth K (He.ga K "Table") "cleared" "Table.cleared" s_Table_cleared ["self", "row", "head", "column"] [] := mth_of (c.def_ 60 (d := d_Table_cleared) rfl) (He.meth_ok (c.fact 117 (f := .meth "Table" "cleared") rfl)) L_Table (fun _ _ _ _ _ _ us hl => match us, hl with | [_, _, _, _], _ => rfl)
  have D_Table_improve : Mth K (He.ga K "Table") "improve" "Table.improve" s_Table_improve ["self", "goal", "limit"] [] := mth_of (c.def_ 61 (d := d_Table_improve) rfl) (He.meth_ok (c.fact 118 (f := .meth "Table" "improve") rfl)) L_Table (fun _ _ _ _ _ _ us hl => match us, hl with | [_, _, _], _ => rfl)
  have D_Table_leaving : Mth K (He.ga K "Table") "leaving" "Table.leaving" s_Table_leaving ["self", "column"] [] := mth_of (c.def_ 62 (d := d_Table_leaving) rfl) (He.meth_ok (c.fact 119 (f := .meth "Table" "leaving") rfl)) L_Table (fun _ _ _ _ _ _ us hl => match us, hl with | [_, _], _ => rfl)
  have D_Table_leave_artificial : Mth K (He.ga K "Table") "leave_artificial" "Table.leave_artificial" s_Table_leave_artificial ["self", "goal"] [] := mth_of (c.def_ 63 (d := d_Table_leave_artificial) rfl) (He.meth_ok (c.fact 120 (f := .meth "Table" "leave_artificial") rfl)) L_Table (fun _ _ _ _ _ _ us hl => match us, hl with | [_, _], _ => rfl)
  have D_Halves_judge : Mth K (He.ga K "Halves") "judge" "Halves.judge" s_Halves_judge ["self", "view"] [] := mth_of (c.def_ 68 (d := d_Halves_judge) rfl) (He.meth_ok (c.fact 121 (f := .meth "Halves" "judge") rfl)) L_Halves (fun _ _ _ _ _ _ us hl => match us, hl with | [_, _], _ => rfl)
  have D_Boxes_judge : Mth K (He.ga K "Boxes") "judge" "Boxes.judge" s_Boxes_judge ["self", "view"] [] := mth_of (c.def_ 69 (d := d_Boxes_judge) rfl) (He.meth_ok (c.fact 122 (f := .meth "Boxes" "judge") rfl)) L_Boxes (fun _ _ _ _ _ _ us hl => match us, hl with | [_, _], _ => rfl)
  have D_Rising_judge : Mth K (He.ga K "Rising") "judge" "Rising.judge" s_Rising_judge ["self", "view"] [] := mth_of (c.def_ 70 (d := d_Rising_judge) rfl) (He.meth_ok (c.fact 123 (f := .meth "Rising" "judge") rfl)) L_Rising (fun _ _ _ _ _ _ us hl => match us, hl with | [_, _], _ => rfl)
  have D_Flats_judge : Mth K (He.ga K "Flats") "judge" "Flats.judge" s_Flats_judge ["self", "view"] [] := mth_of (c.def_ 71 (d := d_Flats_judge) rfl) (He.meth_ok (c.fact 124 (f := .meth "Flats" "judge") rfl)) L_Flats (fun _ _ _ _ _ _ us hl => match us, hl with | [_, _], _ => rfl)
  have D_Turns_judge : Mth K (He.ga K "Turns") "judge" "Turns.judge" s_Turns_judge ["self", "view"] [] := mth_of (c.def_ 72 (d := d_Turns_judge) rfl) (He.meth_ok (c.fact 125 (f := .meth "Turns" "judge") rfl)) L_Turns (fun _ _ _ _ _ _ us hl => match us, hl with | [_, _], _ => rfl)
  have R_Sample : Mkr K mg "Sample" (He.ga K "Sample") "Sample.__init__" s_Sample_init ["self", "places", "examples"] := by
    obtain ⟨fd, F⟩ := c.def_ 56 (d := d_Sample_init) rfl
    have F : FunD K "__init__" "Sample.__init__" (defArgs s_Sample_init) (defBody s_Sample_init) (defScope s_Sample_init) [.ref (He.dflAt ("Sample", some "__init__") 0 K)] [] (He.ma K (He.ga K "Sample") "__init__") fd := F
    obtain ⟨ds, v, b⟩ := FunD.binds1 (ps := ["self", "places", "examples"]) F 3 1 (fun h => nomatch h) rfl (fun _ _ _ _ _ _ _ us its h1 h2 => match us, its, h1, h2 with | [_, _, _], [_], _, _ => ⟨_, rfl, rfl⟩)
    cases v
    exact ⟨⟨_, fd, _, _, F, W_Sample, b⟩, (He.glo_ok X G (c.fact 56 (f := .glo "Sample") rfl)), L_Sample⟩
  have R_Table : Mkr K mg "Table" (He.ga K "Table") "Table.__init__" s_Table_init ["self", "columns", "rhs"] := mkr_of (c.def_ 58 (d := d_Table_init) rfl) (He.glo_ok X G (c.fact 57 (f := .glo "Table") rfl)) W_Table L_Table (fun _ _ _ _ _ _ us hl => match us, hl with | [_, _, _], _ => rfl)
  have R_Halves : Mkr K mg "Halves" (He.ga K "Halves") "Kind.__init__" s_Kind_init ["self", "places"] := mkr_of (c.def_ 64 (d := d_Halves_init) rfl) (He.glo_ok X G (c.fact 58 (f := .glo "Halves") rfl)) W_Halves L_Halves (fun _ _ _ _ _ _ us hl => match us, hl with | [_, _], _ => rfl)
  have R_Boxes : Mkr K mg "Boxes" (He.ga K "Boxes") "Kind.__init__" s_Kind_init ["self", "places"] := mkr_of (c.def_ 65 (d := d_Boxes_init) rfl) (He.glo_ok X G (c.fact 59 (f := .glo "Boxes") rfl)) W_Boxes L_Boxes (fun _ _ _ _ _ _ us hl => match us, hl with | [_, _], _ => rfl)
  have R_Rising : Mkr K mg "Rising" (He.ga K "Rising") "Kind.__init__" s_Kind_init ["self", "places"] := mkr_of (c.def_ 66 (d := d_Rising_init) rfl) (He.glo_ok X G (c.fact 60 (f := .glo "Rising") rfl)) W_Rising L_Rising (fun _ _ _ _ _ _ us hl => match us, hl with | [_, _], _ => rfl)
  have R_Flats : Mkr K mg "Flats" (He.ga K "Flats") "Kind.__init__" s_Kind_init ["self", "places"] := mkr_of (c.def_ 67 (d := d_Flats_init) rfl) (He.glo_ok X G (c.fact 61 (f := .glo "Flats") rfl)) W_Flats L_Flats (fun _ _ _ _ _ _ us hl => match us, hl with | [_, _], _ => rfl)
  obtain ⟨c5, hc5⟩ : ∃ c5 : Cls5, c5 = ⟨He.ga K "Halves", He.ga K "Boxes", He.ga K "Rising", He.ga K "Flats", He.ga K "Turns"⟩ := ⟨_, rfl⟩
  have o5 : C5Ok K c5 := by
    subst hc5
    exact ⟨fun κ => by cases κ <;> assumption, fun κ => by cases κ <;> assumption, N_Turns_most⟩
  have h1 : c5.halves = He.ga K "Halves" := by rw [hc5]
  have h2 : c5.boxes = He.ga K "Boxes" := by rw [hc5]
  have h3 : c5.rising = He.ga K "Rising" := by rw [hc5]
  have h4 : c5.flats = He.ga K "Flats" := by rw [hc5]
  have h5 : c5.turns = He.ga K "Turns" := by rw [hc5]
  have C_is_integer := cal_is_integer (P := P) (w := w) (base := base) T D_is_integer
  have C_is_list := cal_is_list (P := P) (w := w) (base := base) T D_is_list
  have C_is_point := cal_is_point T D_is_point C_is_list C_is_integer
  have C_check_places := cal_check_places T D_check_places C_is_integer
  have C_check_point := cal_check_point T D_check_point C_is_point
  have C_is_example := cal_is_example T D_is_example C_is_list C_is_point
  have C_checked_rows := cal_checked_rows T D_checked_rows C_is_list C_is_example
  have K_Sample := mak_Sample_init T R_Sample N_Sample_places N_Sample_rows C_check_places C_checked_rows
  have M_examples := met_Sample_examples (P := P) (w := w) (base := base) T D_Sample_examples N_Sample_rows
  have C_view_of := cal_view_of T D_view_of M_examples
  have C_checked_points := cal_checked_points T D_checked_points o5 C_check_point
  have C_with_label := cal_with_label (P := P) (w := w) (base := base) T D_with_label
  -- the judges
  have M_cleared := met_Table_cleared (P := P) (w := w) (base := base) T D_Table_cleared N_Table_scale
  have M_leaving := met_Table_leaving (P := P) (w := w) (base := base) T D_Table_leaving N_Table_rows N_Table_basis
  have M_pivot := met_Table_pivot T D_Table_pivot N_Table_scale N_Table_rows N_Table_basis M_cleared
  have M_improve := met_Table_improve T D_Table_improve M_leaving M_pivot
  have M_leave := met_Table_leave_artificial T D_Table_leave_artificial N_Table_many N_Table_rows N_Table_basis M_pivot
  have K_Table := mak_Table_init (P := P) (w := w) (base := base) T R_Table N_Table_many N_Table_signs N_Table_rows N_Table_basis N_Table_scale
  have C_least := cal_least_price T D_least_price L_Table N_Table_many N_Table_signs N_Table_rows N_Table_basis N_Table_scale K_Table M_improve M_leave
  have C_judge_half := cal_judge_half T D_judge_half C_with_label C_least
  have C_box_bounds := cal_box_bounds (P := P) (w := w) (base := base) T D_box_bounds
  have C_is_inside := cal_is_inside (P := P) (w := w) (base := base) T D_is_inside
  have C_judge_box := cal_judge_box T D_judge_box C_with_label C_box_bounds C_is_inside
  have C_is_below := cal_is_below (P := P) (w := w) (base := base) T D_is_below
  have C_judge_rise := cal_judge_rise T D_judge_rise C_with_label C_is_below
  have C_cleared_row := cal_cleared_row (P := P) (w := w) (base := base) T D_cleared_row
  have C_reduced_rows := cal_reduced_rows T D_reduced_rows C_cleared_row
  have C_span_rows := cal_span_rows (P := P) (w := w) (base := base) T D_span_rows
  have C_weights_for := cal_weights_for T D_weights_for C_span_rows C_reduced_rows
  have C_judge_flat := cal_judge_flat T D_judge_flat C_with_label C_weights_for
  have C_in_order := cal_in_order (P := P) (w := w) (base := base) T D_in_order
  have C_judge_turns := cal_judge_turns T D_judge_turns C_in_order
  have MJ : ∀ κ, Met P w K mg base 6 (c5.of κ) "judge" (spJudge c5 κ AskC FitsC) [] := fun κ => by
    cases κ with
    | halves p =>
      show Met P w K mg base 6 c5.halves _ _ _
      rw [h1]
      exact met_Halves_judge T D_Halves_judge o5 h1.symm C_judge_half
    | boxes p =>
      show Met P w K mg base 6 c5.boxes _ _ _
      rw [h2]
      exact met_Boxes_judge T D_Boxes_judge o5 h2.symm C_judge_box
    | rising p =>
      show Met P w K mg base 6 c5.rising _ _ _
      rw [h3]
      exact met_Rising_judge T D_Rising_judge o5 h3.symm C_judge_rise
    | flats p =>
      show Met P w K mg base 6 c5.flats _ _ _
      rw [h4]
      exact met_Flats_judge T D_Flats_judge o5 h4.symm C_judge_flat
    | turns m =>
      show Met P w K mg base 6 c5.turns _ _ _
      rw [h5]
      exact met_Turns_judge T D_Turns_judge o5 h5.symm C_judge_turns
  have C_has_rule := cal_has_rule T D_has_rule C_view_of MJ
  have C_is_given := cal_is_given T D_is_given o5 C_has_rule K_Sample
  have C_labelings := cal_labelings T D_labelings C_checked_points C_is_given
  have C_parts_of := cal_parts_of (P := P) (w := w) (base := base) T D_parts_of
  have C_all_parts := cal_all_parts T D_all_parts C_parts_of
  have C_is_shattered := cal_is_shattered (P := P) (w := w) (base := base) T D_is_shattered
  have C_shattered := cal_shattered T D_shattered C_labelings C_all_parts C_is_shattered
  have C_dimension := cal_dimension T D_dimension C_shattered
  have C_agree := cal_agree (P := P) (w := w) (base := base) T D_agree
  have C_first_part := cal_first_part T D_first_part C_all_parts C_agree
  have C_teaching := cal_teaching_number T D_teaching_number C_labelings C_first_part
  have C_halved := cal_halved (P := P) (w := w) (base := base) T D_halved
  have C_checked_prices := cal_checked_prices (P := P) (w := w) (base := base) T D_checked_prices
  have C_asked := cal_asked (Pt := PTA) T D_asked C_labelings C_checked_prices (fun n rows0 => cal_cheapest_all T TB D_cheapest C_halved n rows0 6)
  have C_asks := cal_asks T D_asks C_asked
  have C_mistakes := cal_mistakes T D_mistakes C_labelings (fun n rows0 => cal_depth_all T D_depth_of C_halved n rows0 6)
  -- the kinds
  have K_Halves : Mak P w K mg base 3 "Halves" c5.halves (spKindInit c5.halves) [] := by
    rw [h1]
    exact mak_Kind_init T R_Halves N_Halves_places C_check_places
  have K_Boxes : Mak P w K mg base 3 "Boxes" c5.boxes (spKindInit c5.boxes) [] := by
    rw [h2]
    exact mak_Kind_init T R_Boxes N_Boxes_places C_check_places
  have K_Rising : Mak P w K mg base 3 "Rising" c5.rising (spKindInit c5.rising) [] := by
    rw [h3]
    exact mak_Kind_init T R_Rising N_Rising_places C_check_places
  have K_Flats : Mak P w K mg base 3 "Flats" c5.flats (spKindInit c5.flats) [] := by
    rw [h4]
    exact mak_Kind_init T R_Flats N_Flats_places C_check_places
  have gT : He.ga K "Turns" = 1049 := of_decide_eq_true t1
  have gI : He.ma K 1049 "__init__" = 1004 := of_decide_eq_true t2
  have lkT : ∃ oc od doc pm ct osl, K.lookup 1004 = some ⟨oc, od, .func ((NFt [("__class__", 992)] 1003).fd doc pm ct), osl⟩ := by
    have e1 : (match K.lookup (He.ma K (He.ga K "Turns") "__init__") with
      | some ⟨_, _, .func fd, _⟩ => (some (fd.name, fd.qualname, fd.params, fd.body, fd.scope, fd.globals, fd.closure, fd.builtins) : He.FnW)
      | _ => none) = tiVal := e1
    rw [gT, gI] at e1
    cases q : K.lookup 1004 with
    | none =>
      rw [q] at e1
      cases e1
    | some o =>
      obtain ⟨oc, od, dt, osl⟩ := o
      rw [q] at e1 t3
      cases dt with
      | func fd =>
        obtain ⟨n1, n2, n3, n4, n5, n6, n7, n8, n9, n10, n11, n12, n13, n14, n15⟩ := fd
        have e2 : (some (n1, n2, n3, n4, n5, n6, n7, n15) : He.FnW) = tiVal := e1
        unfold tiVal at e2
        simp only [Option.some.injEq, Prod.mk.injEq] at e2
        obtain ⟨a1, a2, a3, a4, a5, a6, a7, a8⟩ := e2
        subst a1 a2 a3 a4 a5 a6 a7 a8
        dsimp only at t3
        split at t3
        · have e := of_decide_eq_true t3
          subst e
          exact ⟨oc, od, _, _, _, osl, rfl⟩
        · cases t3
      | _ => cases e1
  obtain ⟨oc, od, doc, pm, ct, osl, lkT⟩ := lkT
  have SF : SupF K mg P 1049 "Turns.__init__" s_Turns_init 1004 716 (NFt [("__class__", 992)] 1003) := by
    refine ⟨⟨rfl, rfl, rfl, rfl, rfl⟩, ?_, ⟨oc, od, doc, pm, ct, osl, lkT⟩, t5, ?_, Option.isSome_iff_exists.mp t7, of_decide_eq_true t8, He.eqO_ok t9, He.eqO_ok t10, of_decide_eq_true t12, t13, T.b_super⟩
    · cases q : K.lookup 992 with
      | none =>
        rw [q] at t4
        cases t4
      | some o =>
        rw [q] at t4
        split at t4
        · rename_i x1 x2 x3 a x4 hx
          cases hx
          have e := of_decide_eq_true t4
          subst e
          exact ⟨_, _, _, _, rfl, q⟩
        · cases t4
    · show ∃ ccl cdd vs ccs file tf, K.lookup 1003 = some ⟨ccl, cdd, .fields vs, ccs⟩ ∧ _
      cases q : K.lookup 1003 with
      | none =>
        rw [q] at t6
        cases t6
      | some o =>
        rw [q] at t6
        split at t6
        · rename_i x1 x2 x3 vs x4 hx
          cases hx
          split at t6
          · rename_i z tz hz
            exact ⟨_, _, _, _, z, tz, rfl, hz, by rw [hP]; exact t6⟩
          · cases t6
        · cases t6
  have K_Turns : Mak P w K mg base 4 "Turns" c5.turns (spTurnsInit c5.turns) [] := by
    rw [h5]
    have W : Mk K (He.ga K "Turns") (He.ma K (He.ga K "Turns") "__init__") := W_Turns
    have LT := L_Turns
    have NP := N_Turns_places
    have NM := N_Turns_most
    have NN : mg "Turns" = some (.ref (He.ga K "Turns")) := (He.glo_ok X G (c.fact 62 (f := .glo "Turns") rfl))
    rw [gT] at W LT NP NM NN ⊢
    rw [gI] at W
    obtain ⟨fd0, F0⟩ := c.def_ 64 (d := d_Halves_init) rfl
    have F0 : FunD K "__init__" "Kind.__init__" (defArgs s_Kind_init) (defBody s_Kind_init) (defScope s_Kind_init) [] [] (He.ma K (He.ga K "Halves") "__init__") fd0 := F0
    rw [of_decide_eq_true t11] at F0
    have F1 := fn_Kind_init (P := P) (w := w) (base := base) T F0 LT NP C_check_places
    have F2 := fnR_of F1 (F0.bindsN (fun _ _ _ _ _ _ us hl => match us, hl with | [_, _], _ => rfl))
    exact ⟨1004, _, ["self", "most"], [], W, fn_Turns_init T SF lkT LT NP NM F2 C_is_integer htop, NN, Binds.all (fun us hl => match us, hl with | [_, _], _ => rfl), .nil⟩
  -- the law's own
  have C_draw := cal_law_draw (P := P) (w := w) (base := base) T D_law_draw
  have C_source := cal_law_source (P := P) (w := w) (base := base) T D_law_source
  have C_mixed := cal_law_mixed T D_law_mixed C_draw
  have C_rises := cal_law_rises T D_law_rises C_mixed
  have C_curved := cal_law_curved T D_law_curved C_rises
  have C_choices := cal_law_choices (P := P) (w := w) (base := base) T D_law_choices
  have C_halvings := cal_law_halvings (P := P) (w := w) (base := base) T D_law_halvings
  have C_halves_of := cal_law_halves_of T D_law_halves_of C_choices
  have C_flats_of := cal_law_flats_of T D_law_flats_of C_choices
  have C_same_i := cal_law_same (P := P) (w := w) (base := base) T D_law_same
  have C_same := S2.cal_law_same T D_law_same C_same_i
  have C_turns := cal_law_turns_right (c := c5) (Pt := PTA) T D_law_turns_right PL C_draw C_rises C_choices C_labelings C_dimension K_Turns C_same
  have C_apart := cal_law_apart_right (c := c5) (Pt := PTA) T D_law_apart_right PL C_rises C_same_i C_same C_labelings C_dimension C_asks C_mistakes C_teaching K_Rising K_Boxes
  have C_row := cal_law_in_row_right (c := c5) (Pt := PTA) T D_law_in_row_right PL C_rises C_mixed C_halvings C_same C_labelings C_dimension C_asks C_mistakes K_Rising K_Boxes
  have C_law := cal_law (c := c5) (Pt := PTA) T D_law PL C_source C_draw C_curved C_halves_of C_flats_of C_same_i C_same C_labelings C_dimension C_row C_turns C_apart K_Halves K_Flats
  exact C_law
end
theorem law_def {K : PySem.W.Frag} (c : He.SaysD fa fn K) : ∃ fd, FunD K "law" "law" (defArgs s_law) (defBody s_law) (defScope s_law) [] [] (He.ga K "law") fd := c.def_ 55 (d := d_law) rfl
theorem law_glo {K : PySem.W.Frag} {h : Heap} {mg : Str → Option Value} (X : K.In h) (G : h.Ns mainGlobals mg) (c : He.SaysD fa fn K) : mg "law" = some (.ref (He.ga K "law")) := He.glo_ok X G (c.fact 55 (f := .glo "law") rfl)
end K49

namespace K49
/-- a row that is a sum of rows -/
def Spn (l : List (List Int)) (L : Nat) (v : Nat → Int) : Prop := ∃ y : Nat → Int, ∀ j, j < L → v j = sm l.length fun k => y k * ent l k j
theorem Spn.row {l : List (List Int)} {L k : Nat} (hk : k < l.length) : Spn l L (ent l k) := ⟨fun i => if i = k then 1 else 0, fun j _ => by
  rw [sm_one (r := k) hk (fun i _ hne => by simp [hne])]
  simp⟩
theorem Spn.lin {l : List (List Int)} {L : Nat} {u v : Nat → Int} (hu : Spn l L u) (hv : Spn l L v) (a b : Int) : Spn l L fun j => a * u j + b * v j := by
  obtain ⟨y, hy⟩ := hu
  obtain ⟨z, hz⟩ := hv
  refine ⟨fun k => a * y k + b * z k, fun j hj => ?_⟩
  show a * u j + b * v j = _
  rw [hy j hj, hz j hj, ← sm_mul, ← sm_mul, ← sm_add]
  exact sm_congr fun k _ => by grind
theorem Spn.zero {l : List (List Int)} {L : Nat} : Spn l L fun _ => 0 := ⟨fun _ => 0, fun j _ => (sm_zero fun k _ => by simp).symm⟩
theorem Spn.congr {l : List (List Int)} {L : Nat} {u v : Nat → Int} (h : Spn l L u) (e : ∀ j, j < L → v j = u j) : Spn l L v := by
  obtain ⟨y, hy⟩ := h
  exact ⟨y, fun j hj => by rw [e j hj, hy j hj]⟩
theorem Spn.sum {l : List (List Int)} {L : Nat} (u : Nat → Nat → Int) (y : Nat → Int) : ∀ n, (∀ k, k < n → Spn l L (u k)) → Spn l L fun j => sm n fun k => y k * u k j
  | 0, _ => Spn.zero
  | n + 1, h => by
    have ih := Spn.sum u y n fun k hk => h k (by omega)
    refine (ih.lin (h n (by omega)) 1 (y n)).congr fun j _ => ?_
    show sm n _ + _ = _
    rw [Int.one_mul]
theorem swap_back {l : List (List Int)} {a f k j : Nat} (ha : a < l.length) (hf : f < l.length) (hk : k < l.length) : ent l k j = ent (swapL l a f) (if k = f then a else if k = a then f else k) j := by
  have hk2 : (if k = f then a else if k = a then f else k) < l.length := by split; exact ha; split; exact hf; exact hk
  rw [ent_swap ha hf hk2]
  congr 1
  by_cases h1 : k = f
  · subst h1
    rw [if_pos rfl]
    by_cases h2 : a = k
    · rw [if_pos h2, h2]
    · rw [if_neg h2, if_pos rfl]
  · rw [if_neg h1]
    by_cases h2 : k = a
    · subst h2
      rw [if_pos rfl, if_pos rfl]
    · rw [if_neg h2, if_neg h1, if_neg h2]
/-- one step of the elimination keeps the sums of rows, up to a factor -/
theorem step_span {L c : Nat} {st : List (List Int) × List (Nat × Nat)} (R : Red L c st) (hc : c < L) (hlt : st.2.length ≤ st.1.length) :
    (∀ k, k < (stepCol st c).1.length → Spn st.1 L (ent (stepCol st c).1 k)) ∧ ∃ d : Int, d ≠ 0 ∧ ∀ v, Spn st.1 L v → Spn (stepCol st c).1 L fun j => d * v j := by
  unfold stepCol
  cases hf : foundIn st.1 st.2.length c with
  | nil => exact ⟨fun k hk => Spn.row hk, 1, by decide, fun v hv => hv.congr fun j _ => by rw [Int.one_mul]⟩
  | cons f fs =>
    obtain ⟨f1, f2, f3⟩ := foundIn_mem (l := st.1) (a := st.2.length) (c := c) (k := f) (by rw [hf]; exact List.mem_cons_self ..)
    have ha : st.2.length < st.1.length := by omega
    have hswl := swapL_len st.1 st.2.length f
    have hsl : ∀ r ∈ swapL st.1 st.2.length f, r.length = L := fun r hr => by
      have mem : r ∈ st.1 := by
        unfold swapL at hr
        rcases List.mem_or_eq_of_mem_set hr with q | q
        · rcases List.mem_or_eq_of_mem_set q with q | q
          · exact q
          · rw [q, getD_eq f2]
            exact List.getElem_mem f2
        · rw [q, getD_eq ha]
          exact List.getElem_mem ha
      exact R.len r mem
    have hpiv : ent (swapL st.1 st.2.length f) st.2.length c ≠ 0 := by
      rw [ent_swap ha f2 ha]
      by_cases e : st.2.length = f
      · rw [if_pos e, e]
        exact f3
      · rw [if_neg e, if_pos rfl]
        exact f3
    have cl : ∀ k j, k < st.1.length → j < L → ent (clearAll (swapL st.1 st.2.length f) st.2.length c) k j = if k = st.2.length then ent (swapL st.1 st.2.length f) st.2.length j else if ent (swapL st.1 st.2.length f) k c = 0 then ent (swapL st.1 st.2.length f) k j else ent (swapL st.1 st.2.length f) k j * ent (swapL st.1 st.2.length f) st.2.length c - ent (swapL st.1 st.2.length f) k c * ent (swapL st.1 st.2.length f) st.2.length j := fun k j hk hj => ent_clear hsl (by omega) (by omega) hj
    have hlen2 : (clearAll (swapL st.1 st.2.length f) st.2.length c).length = st.1.length := by rw [clearAll_len, hswl]
    have sw : ∀ k, k < st.1.length → Spn st.1 L (ent (swapL st.1 st.2.length f) k) := fun k hk => by
      refine (Spn.row (k := if k = f then st.2.length else if k = st.2.length then f else k) (by split; exact ha; split; exact f2; exact hk)).congr fun j _ => ?_
      exact ent_swap ha f2 hk
    refine ⟨fun k hk => ?_, ent (swapL st.1 st.2.length f) st.2.length c, hpiv, fun v hv => ?_⟩
    · have hk : k < (clearAll (swapL st.1 st.2.length f) st.2.length c).length := hk
      rw [hlen2] at hk
      show Spn st.1 L (ent (clearAll _ _ _) k)
      by_cases h1 : k = st.2.length
      · exact (sw _ ha).congr fun j hj => by rw [cl k j hk hj, if_pos h1]
      · by_cases h2 : ent (swapL st.1 st.2.length f) k c = 0
        · exact (sw k hk).congr fun j hj => by rw [cl k j hk hj, if_neg h1, if_pos h2]
        · refine ((sw k hk).lin (sw _ ha) (ent (swapL st.1 st.2.length f) st.2.length c) (-(ent (swapL st.1 st.2.length f) k c))).congr fun j hj => ?_
          rw [cl k j hk hj, if_neg h1, if_neg h2]
          grind
    · obtain ⟨y, hy⟩ := hv
      show Spn (clearAll (swapL st.1 st.2.length f) st.2.length c) L _
      have rowc : ∀ k, k < st.1.length → Spn (clearAll (swapL st.1 st.2.length f) st.2.length c) L (ent (clearAll (swapL st.1 st.2.length f) st.2.length c) k) := fun k hk => Spn.row (by rw [hlen2]; exact hk)
      have key : ∀ k, k < st.1.length → Spn (clearAll (swapL st.1 st.2.length f) st.2.length c) L fun j => ent (swapL st.1 st.2.length f) st.2.length c * ent (swapL st.1 st.2.length f) k j := fun k hk => by
        by_cases h1 : k = st.2.length
        · refine ((rowc _ ha).lin (rowc _ ha) (ent (swapL st.1 st.2.length f) st.2.length c) 0).congr fun j hj => ?_
          rw [cl _ j ha hj, if_pos rfl, h1]
          grind
        · by_cases h2 : ent (swapL st.1 st.2.length f) k c = 0
          · refine ((rowc k hk).lin (rowc _ ha) (ent (swapL st.1 st.2.length f) st.2.length c) 0).congr fun j hj => ?_
            rw [cl k j hk hj, if_neg h1, if_pos h2]
            grind
          · refine ((rowc k hk).lin (rowc _ ha) 1 (ent (swapL st.1 st.2.length f) k c)).congr fun j hj => ?_
            rw [cl k j hk hj, if_neg h1, if_neg h2, cl _ j ha hj, if_pos rfl]
            grind
      refine (Spn.sum (fun k j => ent (swapL st.1 st.2.length f) st.2.length c * ent st.1 k j) y st.1.length fun k hk => ?_).congr fun j hj => ?_
      · refine (key (if k = f then st.2.length else if k = st.2.length then f else k) (by split; exact ha; split; exact f2; exact hk)).congr fun j _ => ?_
        show _ * ent st.1 k j = _
        rw [swap_back ha f2 hk]
      · show _ * v j = _
        rw [hy j hj, ← sm_mul]
        exact sm_congr fun k _ => by grind
theorem reduce_span {L : Nat} {rows : List (List Int)} (h : ∀ r ∈ rows, r.length = L) : ∀ c, c ≤ L → (∀ k, k < (reduce rows c).1.length → Spn rows L (ent (reduce rows c).1 k)) ∧ ∃ d : Int, d ≠ 0 ∧ ∀ v, Spn rows L v → Spn (reduce rows c).1 L fun j => d * v j
  | 0, _ => ⟨fun k hk => Spn.row hk, 1, by decide, fun v hv => hv.congr fun j _ => by rw [Int.one_mul]⟩
  | c + 1, hc => by
    obtain ⟨i1, d, hd, i2⟩ := reduce_span h c (by omega)
    have R := reduce_red h c (by omega)
    obtain ⟨s1, e, he, s2⟩ := step_span R (by omega) R.few
    refine ⟨fun k hk => ?_, e * d, Int.mul_ne_zero he hd, fun v hv => (s2 _ (i2 v hv)).congr fun j _ => by rw [Int.mul_assoc]⟩
    obtain ⟨y, hy⟩ := s1 k hk
    exact (Spn.sum (fun i => ent (reduce rows c).1 i) y _ i1).congr fun j hj => hy j hj
end K49

namespace K49
/-- a functional on a point of the curve with a one behind -/
theorem aug_val {p : Nat} (hp : p ≤ 3) (y : Nat → Int) (t : Int) : (sm (p + 1) fun i => y i * (aug (curve p t)).getD i 0) = val p y t + y p := by
  have hl : (curve p t).length = p := by unfold curve; rw [List.length_take]; show min p 3 = p; omega
  show sm p _ + _ = _
  unfold val
  have e1 : (sm p fun i => y i * (aug (curve p t)).getD i 0) = sm p fun k => y k * (curve p t).getD k 0 := sm_congr fun i hi => by
    unfold aug
    simp [List.getD, List.getElem?_append, hl, hi]
  have e2 : (aug (curve p t)).getD p 0 = 1 := by
    unfold aug
    simp [List.getD, List.getElem?_append, hl]
  rw [e1]
  simp only [e2, Int.mul_one]
theorem cancel {x y : Int} (h : x * y = 0) (hy : y ≠ 0) : x = 0 := (Int.mul_eq_zero.mp h).resolve_right hy
/-- more roots than places: nothing but zero -/
theorem roots_all {p : Nat} (hp1 : 1 ≤ p) (hp : p ≤ 3) (y : Nat → Int) (us : List Int) (nd : us.Nodup) (hl : p + 1 ≤ us.length) (h : ∀ u ∈ us, val p y u + y p = 0) (t : Int) : val p y t + y p = 0 := by
  have : p = 1 ∨ p = 2 ∨ p = 3 := by omega
  rcases this with rfl | rfl | rfl
  · match us, nd, hl, h with
    | a :: b :: _, nd, _, h =>
      have nab : b ≠ a := fun e => by simp [e] at nd
      have ha := h a (by simp)
      have hb := h b (by simp)
      rw [val1] at ha hb ⊢
      have z0 : y 0 = 0 := cancel (y := b - a) (by rw [Int.mul_sub]; omega) (by omega)
      rw [z0] at ha ⊢
      omega
    | [_], _, hl, _ => simp at hl
    | [], _, hl, _ => simp at hl
  · match us, nd, hl, h with
    | a :: b :: c :: _, nd, _, h =>
      have nab : b ≠ a := fun e => by simp [e] at nd
      have nac : c ≠ a := fun e => by simp [e] at nd
      have nbc : c ≠ b := fun e => by simp [e] at nd
      have ha := h a (by simp)
      have hb := h b (by simp)
      have hc := h c (by simp)
      rw [val2] at ha hb hc ⊢
      have g1 : y 0 + y 1 * (a + b) = 0 := cancel (y := b - a) (by rw [show (y 0 + y 1 * (a + b)) * (b - a) = (y 0 * b + y 1 * (b * b)) - (y 0 * a + y 1 * (a * a)) by grind]; omega) (by omega)
      have g2 : y 0 + y 1 * (b + c) = 0 := cancel (y := c - b) (by rw [show (y 0 + y 1 * (b + c)) * (c - b) = (y 0 * c + y 1 * (c * c)) - (y 0 * b + y 1 * (b * b)) by grind]; omega) (by omega)
      have z1 : y 1 = 0 := cancel (y := c - a) (by rw [show y 1 * (c - a) = (y 0 + y 1 * (b + c)) - (y 0 + y 1 * (a + b)) by grind]; omega) (by omega)
      rw [z1] at g1 ha ⊢
      have z0 : y 0 = 0 := by omega
      rw [z0] at ha ⊢
      omega
    | [_, _], _, hl, _ => simp at hl
    | [_], _, hl, _ => simp at hl
    | [], _, hl, _ => simp at hl
  · match us, nd, hl, h with
    | a :: b :: c :: d :: _, nd, _, h =>
      have nab : b ≠ a := fun e => by simp [e] at nd
      have nac : c ≠ a := fun e => by simp [e] at nd
      have nad : d ≠ a := fun e => by simp [e] at nd
      have nbc : c ≠ b := fun e => by simp [e] at nd
      have nbd : d ≠ b := fun e => by simp [e] at nd
      have ncd : d ≠ c := fun e => by simp [e] at nd
      have ha := h a (by simp)
      have hb := h b (by simp)
      have hc := h c (by simp)
      have hd := h d (by simp)
      have g1 : y 0 + y 1 * (a + b) + y 2 * (a * a + a * b + b * b) = 0 := cancel (y := b - a) (by rw [dd3]; omega) (by omega)
      have g2 : y 0 + y 1 * (b + c) + y 2 * (b * b + b * c + c * c) = 0 := cancel (y := c - b) (by rw [dd3]; omega) (by omega)
      have g3 : y 0 + y 1 * (c + d) + y 2 * (c * c + c * d + d * d) = 0 := cancel (y := d - c) (by rw [dd3]; omega) (by omega)
      have k1 : y 1 + y 2 * (a + b + c) = 0 := cancel (y := c - a) (by rw [dd3']; omega) (by omega)
      have k2 : y 1 + y 2 * (b + c + d) = 0 := cancel (y := d - b) (by rw [dd3']; omega) (by omega)
      have z2 : y 2 = 0 := cancel (y := d - a) (by rw [show y 2 * (d - a) = (y 1 + y 2 * (b + c + d)) - (y 1 + y 2 * (a + b + c)) by grind]; omega) (by omega)
      rw [z2] at k1 g1
      have z1 : y 1 = 0 := by omega
      rw [z1] at g1
      have z0 : y 0 = 0 := by omega
      rw [val3, z0, z1, z2] at ha ⊢
      omega
    | [_, _, _], _, hl, _ => simp at hl
    | [_, _], _, hl, _ => simp at hl
    | [_], _, hl, _ => simp at hl
    | [], _, hl, _ => simp at hl
/-- a functional that vanishes at few points alone -/
theorem few_roots {p : Nat} (hp1 : 1 ≤ p) (hp : p ≤ 3) (us : List Int) (hl : us.length ≤ p) : ∃ y : Nat → Int, ∀ t, val p y t + y p = us.foldr (fun u acc => (t - u) * acc) 1 := by
  have h4 : ∀ (a b c d : Int), ∃ (y : Nat → Int), y 0 = a ∧ y 1 = b ∧ y 2 = c ∧ y 3 = d := fun a b c d => ⟨fun k => if k = 0 then a else if k = 1 then b else if k = 2 then c else d, rfl, rfl, rfl, rfl⟩
  have hp3 : p = 1 ∨ p = 2 ∨ p = 3 := by omega
  match us, hl with
  | [], _ =>
    rcases hp3 with rfl | rfl | rfl
    · obtain ⟨y, y0, y1, y2, y3⟩ := h4 0 1 0 0
      exact ⟨y, fun t => by rw [val1, y0, y1]; simp⟩
    · obtain ⟨y, y0, y1, y2, y3⟩ := h4 0 0 1 0
      exact ⟨y, fun t => by rw [val2, y0, y1, y2]; simp⟩
    · obtain ⟨y, y0, y1, y2, y3⟩ := h4 0 0 0 1
      exact ⟨y, fun t => by rw [val3, y0, y1, y2, y3]; simp⟩
  | [a], _ =>
    rcases hp3 with rfl | rfl | rfl
    · obtain ⟨y, y0, y1, y2, y3⟩ := h4 1 (-a) 0 0
      exact ⟨y, fun t => by rw [val1, y0, y1]; simp; omega⟩
    · obtain ⟨y, y0, y1, y2, y3⟩ := h4 1 0 (-a) 0
      exact ⟨y, fun t => by rw [val2, y0, y1, y2]; simp; omega⟩
    · obtain ⟨y, y0, y1, y2, y3⟩ := h4 1 0 0 (-a)
      exact ⟨y, fun t => by rw [val3, y0, y1, y2, y3]; simp; omega⟩
  | [a, b], hl =>
    rcases hp3 with rfl | rfl | rfl
    · simp at hl
    · obtain ⟨y, y0, y1, y2, y3⟩ := h4 (-(a + b)) 1 (a * b) 0
      exact ⟨y, fun t => by rw [val2, y0, y1, y2]; simp; grind⟩
    · obtain ⟨y, y0, y1, y2, y3⟩ := h4 (-(a + b)) 1 0 (a * b)
      exact ⟨y, fun t => by rw [val3, y0, y1, y2, y3]; simp; grind⟩
  | [a, b, c], hl =>
    rcases hp3 with rfl | rfl | rfl
    · simp at hl
    · simp at hl
    · obtain ⟨y, y0, y1, y2, y3⟩ := h4 (a * b + a * c + b * c) (-(a + b + c)) 1 (-(a * b * c))
      exact ⟨y, fun t => by rw [val3, y0, y1, y2, y3]; simp; grind⟩
  | _ :: _ :: _ :: _ :: _, hl => simp at hl; omega
theorem fold_zero {us : List Int} {t : Int} (h : t ∈ us) : us.foldr (fun u acc => (t - u) * acc) 1 = 0 := by
  induction us with
  | nil => exact nomatch h
  | cons a r ih =>
    rw [List.foldr_cons]
    rcases List.mem_cons.mp h with e | e
    · rw [e, Int.sub_self, Int.zero_mul]
    · rw [ih e, Int.mul_zero]
theorem fold_ne {us : List Int} {t : Int} (h : t ∉ us) : us.foldr (fun u acc => (t - u) * acc) 1 ≠ 0 := by
  induction us with
  | nil => exact (by decide : (1 : Int) ≠ 0)
  | cons a r ih =>
    rw [List.foldr_cons]
    rw [List.mem_cons] at h
    exact Int.mul_ne_zero (fun e => h (.inl (by omega))) (ih fun q => h (.inr q))
/-- the rows of the system, by entries -/
theorem span_ent {p : Nat} (hp : p ≤ 3) (us : List Int) (v : Int) {i j : Nat} (hi : i < p + 1) (hj : j < us.length + 1) :
    ent (spanRows (us.map (curve p)) (curve p v)) i j = if h : j < us.length then (aug (curve p us[j])).getD i 0 else (aug (curve p v)).getD i 0 := by
  have hl : (curve p v).length = p := by unfold curve; rw [List.length_take]; show min p 3 = p; omega
  unfold ent spanRows
  rw [hl]
  have e1 : ((List.range (p + 1)).map fun i => ((us.map (curve p)).map fun P => (aug P).getD i 0) ++ [(aug (curve p v)).getD i 0]).getD i [] = ((us.map (curve p)).map fun P => (aug P).getD i 0) ++ [(aug (curve p v)).getD i 0] := by
    simp [List.getD, List.getElem?_map, List.getElem?_range hi]
  rw [e1]
  by_cases h : j < us.length
  · rw [dif_pos h]
    simp [List.getD, List.getElem?_append, h]
  · rw [dif_neg h]
    have : j = us.length := by omega
    subst this
    simp [List.getD, List.getElem?_append]
theorem solv_iff {p : Nat} (hp1 : 1 ≤ p) (hp : p ≤ 3) {us : List Int} (nd : us.Nodup) {v : Int} (hv : v ∉ us) : solvable (us.map (curve p)) (curve p v) = true ↔ p + 1 ≤ us.length := by
  have hcl : ∀ t, (curve p t).length = p := fun t => by unfold curve; rw [List.length_take]; show min p 3 = p; omega
  have hlen : ∀ r ∈ spanRows (us.map (curve p)) (curve p v), r.length = us.length + 1 := fun r hr => by
    obtain ⟨i, _, rfl⟩ := List.mem_map.mp hr
    simp
  have hn : (spanRows (us.map (curve p)) (curve p v)).length = p + 1 := by unfold spanRows; rw [List.length_map, List.length_range, hcl]
  have hml : (us.map (curve p)).length = us.length := List.length_map ..
  obtain ⟨i1, d, hd, i2⟩ := reduce_span hlen us.length (by omega)
  have R := reduce_red hlen us.length (by omega)
  have sol : solvable (us.map (curve p)) (curve p v) = true ↔ ∀ k, (reduce (spanRows (us.map (curve p)) (curve p v)) us.length).2.length ≤ k → k < (reduce (spanRows (us.map (curve p)) (curve p v)) us.length).1.length → ent (reduce (spanRows (us.map (curve p)) (curve p v)) us.length).1 k us.length = 0 := by
    unfold solvable
    rw [hml]
    generalize reduce (spanRows (us.map (curve p)) (curve p v)) us.length = st at R
    rw [List.all_eq_true]
    have last : ∀ k (hk : k < st.1.length), st.1[k].getLast?.getD 0 = ent st.1 k us.length := fun k hk => by
      unfold ent
      rw [getD_eq hk]
      have hl := R.len _ (List.getElem_mem hk)
      rw [List.getLast?_eq_getElem?, hl, Nat.add_sub_cancel]
      rfl
    constructor
    · intro h k h1 h2
      have := of_decide_eq_true (h st.1[k] (List.mem_iff_getElem.mpr ⟨k - st.2.length, by rw [List.length_drop]; omega, by rw [List.getElem_drop]; congr 1; omega⟩))
      rw [last k h2] at this
      exact this
    · intro h r hr
      obtain ⟨i, hi, rfl⟩ := List.mem_iff_getElem.mp hr
      rw [List.length_drop] at hi
      rw [List.getElem_drop, last _ (by omega)]
      exact decide_eq_true (h _ (by omega) (by omega))
  rw [sol]
  constructor
  · intro h
    refine Classical.byContradiction fun hlt => ?_
    obtain ⟨y, hy⟩ := few_roots hp1 hp us (by omega)
    have hS : Spn (spanRows (us.map (curve p)) (curve p v)) (us.length + 1) fun j => if h : j < us.length then us.foldr (fun u acc => (us[j] - u) * acc) 1 else us.foldr (fun u acc => (v - u) * acc) 1 := by
      refine ⟨y, fun j hj => ?_⟩
      rw [hn]
      have e : (sm (p + 1) fun k => y k * ent (spanRows (us.map (curve p)) (curve p v)) k j) = sm (p + 1) fun k => y k * (if h : j < us.length then (aug (curve p us[j])).getD k 0 else (aug (curve p v)).getD k 0) := sm_congr fun k hk => by rw [span_ent hp us v hk hj]
      rw [e]
      by_cases h : j < us.length
      · simp only [dif_pos h]
        rw [aug_val hp, hy]
      · simp only [dif_neg h]
        rw [aug_val hp, hy]
    obtain ⟨z, hz⟩ := i2 _ hS
    generalize reduce (spanRows (us.map (curve p)) (curve p v)) us.length = st at R h hz
    -- the leading rows take no part
    have lead0 : ∀ k, k < st.2.length → z k = 0 := fun k hk => by
      have hd' : st.2[k]? = some st.2[k] := List.getElem?_eq_getElem hk
      obtain ⟨a1, a2⟩ := R.at' k _ hd'
      have mem : st.2[k] ∈ st.2 := List.getElem_mem hk
      have e := hz st.2[k].2 (by omega)
      simp only [dif_pos a2] at e
      rw [fold_zero (List.getElem_mem a2), Int.mul_zero, sm_one (r := k) (by have := R.few; omega) (fun i hi hne => by rw [R.zer _ mem i hi (by omega), Int.mul_zero])] at e
      have pv := R.piv _ mem
      rw [a1] at pv
      exact cancel e.symm pv
    have e := hz us.length (by omega)
    simp only [dif_neg (Nat.lt_irrefl _)] at e
    rw [sm_zero (fun k hk => by
      by_cases h1 : k < st.2.length
      · rw [lead0 k h1, Int.zero_mul]
      · rw [h k (by omega) hk, Int.mul_zero])] at e
    exact Int.mul_ne_zero hd (fold_ne hv) e
  · intro hl k h1 h2
    obtain ⟨y, hy⟩ := i1 k h2
    have f : ∀ j, j < us.length + 1 → ent (reduce (spanRows (us.map (curve p)) (curve p v)) us.length).1 k j = if h : j < us.length then val p y us[j] + y p else val p y v + y p := fun j hj => by
      rw [hy j hj, hn]
      have e : (sm (p + 1) fun k => y k * ent (spanRows (us.map (curve p)) (curve p v)) k j) = sm (p + 1) fun k => y k * (if h : j < us.length then (aug (curve p us[j])).getD k 0 else (aug (curve p v)).getD k 0) := sm_congr fun k hk => by rw [span_ent hp us v hk hj]
      rw [e]
      by_cases h : j < us.length
      · simp only [dif_pos h]
        rw [aug_val hp]
      · simp only [dif_neg h]
        rw [aug_val hp]
    rw [f us.length (by omega), dif_neg (Nat.lt_irrefl _)]
    refine roots_all hp1 hp y us nd hl (fun u hu => ?_) v
    obtain ⟨j, hj, rfl⟩ := List.mem_iff_getElem.mp hu
    have z := f j (by omega)
    rw [dif_pos hj] at z
    rw [← z]
    exact R.low k h1 h2 j hj
end K49

namespace K49
abbrev IB := List (Int × Bool)
def yesI (l : IB) : List Int := (l.filter fun d => decide (d.2 = true)).map fun d => d.1
def noI (l : IB) : List Int := (l.filter fun d => decide (d.2 = false)).map fun d => d.1
def flatL (p : Nat) (l : IB) : Prop := (yesI l).length ≤ p ∨ noI l = []
def riseL (l : IB) : Prop := ∀ d ∈ l, ∀ e ∈ l, d.2 = true → e.2 = false → ¬ d.1 ≤ e.1
def boxL (l : IB) : Prop := ∀ e ∈ l, e.2 = false → ¬ ((∃ d ∈ l, d.2 = true ∧ d.1 ≤ e.1) ∧ ∃ d ∈ l, d.2 = true ∧ e.1 ≤ d.1)
theorem zip_view (f : Int → List Int) (ts : List Int) (ls : List Bool) (b : Bool) : (withLabel (viewOf ((ts.map f).zip ls)) b).map (fun d => d.2) = (((ts.zip ls).filter fun d => decide (d.2 = b)).map fun d => d.1).map f := by
  rw [withLabel_view]
  have e : (ts.map f).zip ls = (ts.zip ls).map fun d => (f d.1, d.2) := by
    rw [List.zip_map_left]
    rfl
  rw [e, List.filter_map, List.map_map, List.map_map]
  rfl
theorem all_pts {vw : View} {b : Bool} (g : List Int → Bool) : ((withLabel vw b).all fun d => g d.2) = ((withLabel vw b).map fun d => d.2).all g := by
  rw [List.all_map]
  rfl
theorem yes_mem {l : IB} {t : Int} : t ∈ yesI l ↔ (t, true) ∈ l := by
  unfold yesI
  rw [List.mem_map]
  constructor
  · rintro ⟨d, hd, rfl⟩
    obtain ⟨h1, h2⟩ := List.mem_filter.mp hd
    have h2 := of_decide_eq_true h2
    rw [← h2]
    exact h1
  · intro h
    exact ⟨(t, true), List.mem_filter.mpr ⟨h, rfl⟩, rfl⟩
theorem no_mem {l : IB} {t : Int} : t ∈ noI l ↔ (t, false) ∈ l := by
  unfold noI
  rw [List.mem_map]
  constructor
  · rintro ⟨d, hd, rfl⟩
    obtain ⟨h1, h2⟩ := List.mem_filter.mp hd
    have h2 := of_decide_eq_true h2
    rw [← h2]
    exact h1
  · intro h
    exact ⟨(t, false), List.mem_filter.mpr ⟨h, rfl⟩, rfl⟩
theorem apart_uniq : ∀ {l : IB}, Apart l → ∀ d ∈ l, ∀ e ∈ l, d.1 = e.1 → d = e
  | [], _, d, hd, _, _, _ => nomatch hd
  | x :: r, h, d, hd, e, he, q => by
    rcases List.mem_cons.mp hd with h1 | h1 <;> rcases List.mem_cons.mp he with h2 | h2
    · rw [h1, h2]
    · rw [h1] at q
      exact absurd q (h.1 e h2)
    · rw [h2] at q
      exact absurd q.symm (h.1 d h1)
    · exact apart_uniq h.2 d h1 e h2 q
theorem nodup_yes : ∀ {l : IB}, Apart l → ∀ b : Bool, ((l.filter fun d => decide (d.2 = b)).map fun d => d.1).Nodup
  | [], _, _ => List.nodup_nil
  | x :: r, h, b => by
    have ih := nodup_yes h.2 b
    rw [List.filter_cons]
    split
    · rw [List.map_cons, List.nodup_cons]
      refine ⟨fun hm => ?_, ih⟩
      obtain ⟨d, hd, e⟩ := List.mem_map.mp hm
      exact h.1 d (List.mem_filter.mp hd).1 e.symm
    · exact ih
theorem fits_flat {p : Nat} (hp1 : 1 ≤ p) (hp : p ≤ 3) {ts : List Int} (nd : ts.Nodup) (ls : List Bool) : FitsC (.flats p) ((crv p ts).zip ls) ↔ flatL p (ts.zip ls) := by
  have A := apart_zip (ls := ls) nd
  show flatFits _ = true ↔ _
  unfold flatFits
  rw [all_pts fun q => !solvable ((withLabel (viewOf ((crv p ts).zip ls)) true).map fun d => d.2) q]
  unfold crv
  rw [zip_view, zip_view]
  show ((noI (ts.zip ls)).map (curve p)).all (fun q => !solvable ((yesI (ts.zip ls)).map (curve p)) q) = true ↔ _
  rw [List.all_map, List.all_eq_true]
  have key : ∀ v ∈ noI (ts.zip ls), solvable ((yesI (ts.zip ls)).map (curve p)) (curve p v) = true ↔ p + 1 ≤ (yesI (ts.zip ls)).length := fun v hv => by
    refine solv_iff hp1 hp (nodup_yes A true) fun hy => ?_
    have h1 := no_mem.mp hv
    have h2 := yes_mem.mp hy
    have := apart_uniq A _ h1 _ h2 rfl
    cases this
  unfold flatL
  constructor
  · intro h
    by_cases he : noI (ts.zip ls) = []
    · exact .inr he
    · left
      obtain ⟨v, hv⟩ := List.exists_mem_of_ne_nil _ he
      have z := h v hv
      have k := key v hv
      refine Classical.byContradiction fun n => ?_
      rw [Function.comp_apply, k.mpr (by omega)] at z
      cases z
  · intro h v hv
    rcases h with h | h
    · have k := key v hv
      rw [Function.comp_apply]
      cases hs : solvable ((yesI (ts.zip ls)).map (curve p)) (curve p v) with
      | false => rfl
      | true =>
        have := k.mp hs
        omega
    · rw [h] at hv
      exact nomatch hv
theorem rise_gen (f : Int → List Int) (ts : List Int) (ls : List Bool) (p : Nat) : FitsC (.rising p) ((ts.map f).zip ls) ↔ ∀ d ∈ ts.zip ls, ∀ e ∈ ts.zip ls, d.2 = true → e.2 = false → below (f d.1) (f e.1) = false := by
  show riseFits _ = true ↔ _
  unfold riseFits
  rw [all_pts fun q => (withLabel (viewOf ((ts.map f).zip ls)) false).all fun e => !below q e.2]
  have e2 : (fun q => (withLabel (viewOf ((ts.map f).zip ls)) false).all fun e => !below q e.2) = fun q => ((withLabel (viewOf ((ts.map f).zip ls)) false).map fun d => d.2).all fun e => !below q e := by
    funext q
    exact all_pts fun e => !below q e
  rw [e2, zip_view, zip_view]
  show ((yesI (ts.zip ls)).map f).all (fun q => ((noI (ts.zip ls)).map f).all fun e => !below q e) = true ↔ _
  rw [List.all_map, List.all_eq_true]
  constructor
  · rintro h ⟨d, b⟩ hd ⟨e, b'⟩ he h1 h2
    have h1 : b = true := h1
    have h2 : b' = false := h2
    subst h1
    subst h2
    have z := h d (yes_mem.mpr hd)
    rw [Function.comp_apply, List.all_map, List.all_eq_true] at z
    have z := z e (no_mem.mpr he)
    simpa using z
  · intro h d hd
    rw [Function.comp_apply, List.all_map, List.all_eq_true]
    intro e he
    have z := h _ (yes_mem.mp hd) _ (no_mem.mp he) rfl rfl
    rw [Function.comp_apply, z]
    rfl
theorem below_rep {p : Nat} (hp : 1 ≤ p) (s t : Int) : below (List.replicate p s) (List.replicate p t) = decide (s ≤ t) := by
  unfold below
  rw [List.zip_replicate, Nat.min_self]
  obtain ⟨q, rfl⟩ : ∃ q, p = q + 1 := ⟨p - 1, by omega⟩
  rw [Bool.eq_iff_iff, List.all_eq_true]
  constructor
  · intro h
    exact h (s, t) (by rw [List.replicate_succ]; exact List.mem_cons_self ..)
  · intro h x hx
    rw [(List.mem_replicate.mp hx).2]
    exact h
theorem fits_row {p : Nat} (hp : 1 ≤ p) (ts : List Int) (ls : List Bool) : FitsC (.rising p) ((rowP p ts).zip ls) ↔ riseL (ts.zip ls) := by
  unfold rowP
  rw [rise_gen]
  unfold riseL
  constructor
  · intro h d hd e he h1 h2
    have z := h d hd e he h1 h2
    rw [below_rep hp] at z
    exact of_decide_eq_false z
  · intro h d hd e he h1 h2
    rw [below_rep hp]
    exact decide_eq_false (h d hd e he h1 h2)
theorem fits_apt {p : Nat} {ts : List Int} (nd : ts.Nodup) (ls : List Bool) : FitsC (.rising p) ((aptP p ts).zip ls) := by
  unfold aptP
  rw [rise_gen]
  intro d hd e he h1 h2
  cases hb : below ([d.1, 0 - d.1] ++ List.replicate (p - 2) 3) ([e.1, 0 - e.1] ++ List.replicate (p - 2) 3) with
  | false => rfl
  | true =>
    unfold below at hb
    rw [List.all_eq_true] at hb
    have g1 := of_decide_eq_true (hb (d.1, e.1) (by simp))
    have g2 := of_decide_eq_true (hb (0 - d.1, 0 - e.1) (by simp))
    have g1 : d.1 ≤ e.1 := g1
    have g2 : 0 - d.1 ≤ 0 - e.1 := g2
    have := apart_uniq (apart_zip (ls := ls) nd) d hd e he (by omega)
    rw [this, h2] at h1
    cases h1
theorem box_gen (f : Int → List Int) (ts : List Int) (ls : List Bool) (p : Nat) : FitsC (.boxes p) ((ts.map f).zip ls) ↔ yesI (ts.zip ls) = [] ∨ ∀ e ∈ noI (ts.zip ls), inside (f e) (bounds p ((yesI (ts.zip ls)).map f)) = false := by
  show boxFits p _ = true ↔ _
  unfold boxFits
  rw [all_pts fun q => !inside q (bounds p ((withLabel (viewOf ((ts.map f).zip ls)) true).map fun d => d.2))]
  have e1 : (withLabel (viewOf ((ts.map f).zip ls)) true).isEmpty = ((withLabel (viewOf ((ts.map f).zip ls)) true).map fun d => d.2).isEmpty := by
    cases withLabel (viewOf ((ts.map f).zip ls)) true <;> rfl
  rw [e1, zip_view, zip_view]
  show (((yesI (ts.zip ls)).map f).isEmpty || ((noI (ts.zip ls)).map f).all fun q => !inside q (bounds p ((yesI (ts.zip ls)).map f))) = true ↔ _
  rw [Bool.or_eq_true, List.isEmpty_iff, List.map_eq_nil_iff, List.all_map, List.all_eq_true]
  constructor
  · rintro (h | h)
    · exact .inl h
    · exact .inr fun e he => by simpa using h e he
  · rintro (h | h)
    · exact .inl h
    · exact .inr fun e he => by rw [Function.comp_apply, h e he]; rfl
theorem box_of (f : Int → List Int) {ts : List Int} {ls : List Bool} {p : Nat} (hin : ∀ (e : Int) (us : List Int), us ≠ [] → (inside (f e) (bounds p (us.map f)) = true ↔ (∃ u ∈ us, u ≤ e) ∧ ∃ u ∈ us, e ≤ u)) : FitsC (.boxes p) ((ts.map f).zip ls) ↔ boxL (ts.zip ls) := by
  rw [box_gen]
  unfold boxL
  constructor
  · rintro (h | h) ⟨e, b⟩ he h2 ⟨⟨⟨d, b1⟩, hd, h3, h4⟩, ⟨d', b2⟩, hd', h5, h6⟩
    · have h3 : b1 = true := h3
      subst h3
      have := yes_mem.mpr hd
      rw [h] at this
      exact nomatch this
    · have h2 : b = false := h2
      have h3 : b1 = true := h3
      have h5 : b2 = true := h5
      subst h2
      subst h3
      subst h5
      have z := h e (no_mem.mpr he)
      have hne : yesI (ts.zip ls) ≠ [] := fun q => by
        have := yes_mem.mpr hd
        rw [q] at this
        exact nomatch this
      rw [(hin e _ hne).mpr ⟨⟨d, yes_mem.mpr hd, h4⟩, d', yes_mem.mpr hd', h6⟩] at z
      cases z
  · intro h
    by_cases hne : yesI (ts.zip ls) = []
    · exact .inl hne
    · refine .inr fun e he => ?_
      cases hi : inside (f e) (bounds p ((yesI (ts.zip ls)).map f)) with
      | false => rfl
      | true =>
        obtain ⟨⟨u, hu, h1⟩, u', hu', h2⟩ := (hin e _ hne).mp hi
        exact absurd ⟨⟨_, yes_mem.mp hu, rfl, h1⟩, _, yes_mem.mp hu', rfl, h2⟩ (h _ (no_mem.mp he) rfl)
theorem min_le_iff {us : List Int} (h : us ≠ []) (e : Int) : minL us ≤ e ↔ ∃ u ∈ us, u ≤ e := by
  constructor
  · intro q
    exact ⟨_, minL_mem h, q⟩
  · rintro ⟨u, hu, q⟩
    cases us with
    | nil => exact absurd rfl h
    | cons a r =>
      obtain ⟨z1, z2, z3⟩ := foldl_min r a
      have : minL (a :: r) ≤ u := by
        rcases List.mem_cons.mp hu with rfl | hu
        · exact z2
        · exact z3 u hu
      omega
theorem max_ge_iff {us : List Int} (h : us ≠ []) (e : Int) : e ≤ maxL us ↔ ∃ u ∈ us, e ≤ u := by
  constructor
  · intro q
    exact ⟨_, maxL_mem h, q⟩
  · rintro ⟨u, hu, q⟩
    cases us with
    | nil => exact absurd rfl h
    | cons a r =>
      obtain ⟨z1, z2, z3⟩ := foldl_max r a
      have : u ≤ maxL (a :: r) := by
        rcases List.mem_cons.mp hu with rfl | hu
        · exact z2
        · exact z3 u hu
      omega
theorem inside_iff {q : List Int} {k : Nat} {pts : List (List Int)} (hq : q.length = k) : inside q (bounds k pts) = true ↔ ∀ i, i < k → minL (colOf pts i) ≤ q.getD i 0 ∧ q.getD i 0 ≤ maxL (colOf pts i) := by
  unfold inside bounds
  rw [List.all_eq_true]
  constructor
  · intro h i hi
    have hm : (q.getD i 0, (minL (colOf pts i), maxL (colOf pts i))) ∈ q.zip ((List.range k).map fun i => (minL (colOf pts i), maxL (colOf pts i))) := by
      refine List.mem_iff_getElem?.mpr ⟨i, ?_⟩
      rw [List.getElem?_zip_eq_some]
      refine ⟨?_, ?_⟩
      · simp [List.getD, List.getElem?_eq_getElem (show i < q.length by omega)]
      · simp [hi]
    have z := h _ hm
    rw [Bool.and_eq_true, decide_eq_true_iff, decide_eq_true_iff] at z
    exact z
  · intro h x hx
    obtain ⟨i, hi⟩ := List.mem_iff_getElem?.mp hx
    rw [List.getElem?_zip_eq_some] at hi
    obtain ⟨h1, h2⟩ := hi
    have hik : i < q.length := (List.getElem?_eq_some_iff.mp h1).1
    have e1 : x.1 = q.getD i 0 := by simp [List.getD, h1]
    rw [List.getElem?_map, List.getElem?_range (by omega)] at h2
    have e2 := Option.some.inj h2
    obtain ⟨g1, g2⟩ := h i (by omega)
    rw [← e2, e1, Bool.and_eq_true, decide_eq_true_iff, decide_eq_true_iff]
    exact ⟨g1, g2⟩
theorem fits_box_row {p : Nat} (hp : 1 ≤ p) (ts : List Int) (ls : List Bool) : FitsC (.boxes p) ((rowP p ts).zip ls) ↔ boxL (ts.zip ls) := by
  unfold rowP
  refine box_of _ fun e us hne => ?_
  rw [inside_iff List.length_replicate]
  have col : ∀ i, i < p → colOf (us.map fun t => List.replicate p t) i = us := fun i hi => by
    unfold colOf
    rw [List.map_map]
    have : ((fun q : List Int => q.getD i 0) ∘ fun t => List.replicate p t) = id := by
      funext t
      simp [List.getD, List.getElem?_replicate, hi]
    rw [this, List.map_id]
  have ge : ∀ i, i < p → (List.replicate p e).getD i 0 = e := fun i hi => by simp [List.getD, List.getElem?_replicate, hi]
  constructor
  · intro h
    have z := h 0 (by omega)
    rw [col 0 (by omega), ge 0 (by omega)] at z
    exact ⟨(min_le_iff hne e).mp z.1, (max_ge_iff hne e).mp z.2⟩
  · rintro ⟨h1, h2⟩ i hi
    rw [col i hi, ge i hi]
    exact ⟨(min_le_iff hne e).mpr h1, (max_ge_iff hne e).mpr h2⟩
theorem fits_box_apt {p : Nat} (hp2 : 2 ≤ p) (hp : p ≤ 3) (ts : List Int) (ls : List Bool) : FitsC (.boxes p) ((aptP p ts).zip ls) ↔ boxL (ts.zip ls) := by
  unfold aptP
  refine box_of _ fun e us hne => ?_
  have hl : ([e, 0 - e] ++ List.replicate (p - 2) 3).length = p := by simp; omega
  rw [inside_iff hl]
  have c0 : colOf (us.map fun t => [t, 0 - t] ++ List.replicate (p - 2) 3) 0 = us := by
    unfold colOf
    rw [List.map_map]
    have : ((fun q : List Int => q.getD 0 0) ∘ fun t => [t, 0 - t] ++ List.replicate (p - 2) 3) = id := by
      funext t
      rfl
    rw [this, List.map_id]
  have c1 : colOf (us.map fun t => [t, 0 - t] ++ List.replicate (p - 2) 3) 1 = us.map fun t => 0 - t := by
    unfold colOf
    rw [List.map_map]
    rfl
  have n1 : (us.map fun t => 0 - t) ≠ [] := fun h => hne (List.map_eq_nil_iff.mp h)
  constructor
  · intro h
    have z := h 0 (by omega)
    rw [c0] at z
    exact ⟨(min_le_iff hne e).mp z.1, (max_ge_iff hne e).mp z.2⟩
  · rintro ⟨h1, h2⟩ i hi
    have : i = 0 ∨ i = 1 ∨ (i = 2 ∧ p = 3) := by omega
    rcases this with rfl | rfl | ⟨rfl, rfl⟩
    · rw [c0]
      exact ⟨(min_le_iff hne e).mpr h1, (max_ge_iff hne e).mpr h2⟩
    · rw [c1]
      obtain ⟨u, hu, q1⟩ := h1
      obtain ⟨v, hv, q2⟩ := h2
      show minL _ ≤ 0 - e ∧ 0 - e ≤ maxL _
      exact ⟨(min_le_iff n1 _).mpr ⟨0 - v, List.mem_map.mpr ⟨v, hv, rfl⟩, by omega⟩, (max_ge_iff n1 _).mpr ⟨0 - u, List.mem_map.mpr ⟨u, hu, rfl⟩, by omega⟩⟩
    · have c2 : colOf (us.map fun t => [t, 0 - t] ++ List.replicate (3 - 2) 3) 2 = us.map fun _ => 3 := by
        unfold colOf
        rw [List.map_map]
        rfl
      rw [c2]
      have n3 : (us.map fun _ => (3 : Int)) ≠ [] := fun h => hne (List.map_eq_nil_iff.mp h)
      obtain ⟨u, hu⟩ := List.exists_mem_of_ne_nil _ hne
      show minL _ ≤ 3 ∧ 3 ≤ maxL _
      exact ⟨(min_le_iff n3 _).mpr ⟨3, List.mem_map.mpr ⟨u, hu, rfl⟩, Int.le_refl _⟩, (max_ge_iff n3 _).mpr ⟨3, List.mem_map.mpr ⟨u, hu, rfl⟩, Int.le_refl _⟩⟩
theorem fits_half {p : Nat} (hp1 : 1 ≤ p) (hp : p ≤ 3) {ts : List Int} (nd : ts.Nodup) (ls : List Bool) : FitsC (.halves p) ((crv p ts).zip ls) ↔ chg (isort (ts.zip ls)) ≤ p := half_chg hp1 hp nd ls
end K49

namespace K49
theorem leTr_iff (a b : Tri) : leTr a b = true ↔ a.1 < b.1 ∨ (a.1 = b.1 ∧ (a.2.1 < b.2.1 ∨ (a.2.1 = b.2.1 ∧ (a.2.2 = true → b.2.2 = true)))) := by
  unfold leTr ltTr
  by_cases h1 : b.1 = a.1
  · rw [if_pos h1]
    by_cases h2 : b.2.1 = a.2.1
    · rw [if_pos h2]
      cases a.2.2 <;> cases b.2.2 <;> simp <;> omega
    · rw [if_neg h2]
      simp
      omega
  · rw [if_neg h1]
    simp
    omega
theorem leTr_trans (a b c : Tri) (h1 : leTr a b = true) (h2 : leTr b c = true) : leTr a c = true := by
  rw [leTr_iff] at *
  rcases h1 with h1 | ⟨h1, h1 | ⟨h1, h1'⟩⟩ <;> rcases h2 with h2 | ⟨h2, h2 | ⟨h2, h2'⟩⟩
  · left; omega
  · left; omega
  · left; omega
  · left; omega
  · exact .inr ⟨by omega, .inl (by omega)⟩
  · exact .inr ⟨by omega, .inl (by omega)⟩
  · left; omega
  · exact .inr ⟨by omega, .inl (by omega)⟩
  · exact .inr ⟨by omega, .inr ⟨by omega, fun q => h2' (h1' q)⟩⟩
theorem leTr_total (a b : Tri) : (leTr a b || leTr b a) = true := by
  rw [Bool.or_eq_true, leTr_iff, leTr_iff]
  rcases Int.lt_trichotomy a.1 b.1 with h | h | h
  · exact .inl (.inl h)
  · rcases Int.lt_trichotomy a.2.1 b.2.1 with g | g | g
    · exact .inl (.inr ⟨h, .inl g⟩)
    · cases ha : a.2.2 with
      | false => exact .inl (.inr ⟨h, .inr ⟨g, fun q => by cases q⟩⟩)
      | true => exact .inr (.inr ⟨h.symm, .inr ⟨g.symm, fun _ => rfl⟩⟩)
    · exact .inr (.inr ⟨h.symm, .inl g⟩)
  · exact .inr (.inl h)
theorem asc_unique : ∀ {l m : IB}, Asc l → Asc m → (∀ x, x ∈ l ↔ x ∈ m) → l = m
  | [], [], _, _, _ => rfl
  | [], y :: m, _, _, h => absurd ((h y).mpr (List.mem_cons_self ..)) (by simp)
  | x :: l, [], _, _, h => absurd ((h x).mp (List.mem_cons_self ..)) (by simp)
  | x :: l, y :: m, h1, h2, h => by
    have exy : x = y := by
      have a := (h x).mp (List.mem_cons_self ..)
      have b := (h y).mpr (List.mem_cons_self ..)
      rcases List.mem_cons.mp a with a | a
      · exact a
      · rcases List.mem_cons.mp b with b | b
        · exact b.symm
        · have := h2.head x a
          have := h1.head y b
          omega
    subst exy
    congr 1
    refine asc_unique h1.tail h2.tail fun z => ?_
    constructor
    · intro hz
      rcases List.mem_cons.mp ((h z).mp (List.mem_cons_of_mem _ hz)) with q | q
      · have := h1.head z hz
        rw [q] at this
        omega
      · exact q
    · intro hz
      rcases List.mem_cons.mp ((h z).mpr (List.mem_cons_of_mem _ hz)) with q | q
      · have := h2.head z hz
        rw [q] at this
        omega
      · exact q
theorem asc_of_pairwise : ∀ {l : IB}, l.Pairwise (fun a b => a.1 < b.1) → Asc l
  | [], _ => trivial
  | [_], _ => trivial
  | x :: y :: r, h => by
    rw [List.pairwise_cons] at h
    exact ⟨h.1 y (List.mem_cons_self ..), asc_of_pairwise h.2⟩
def chgFrom (b : Bool) : List Tri → Nat
  | [] => 0
  | x :: r => (if b = x.2.2 then 0 else 1) + chgFrom x.2.2 r
theorem chosen_len : ∀ (S : List Tri) (acc : List Tri) (l : Tri), acc.getLast? = some l → (S.foldl addC acc).length = acc.length + chgFrom l.2.2 S
  | [], acc, l, _ => rfl
  | x :: r, acc, l, h => by
    rw [List.foldl_cons]
    have e : addC acc x = if l.2.2 = x.2.2 then acc else acc ++ [x] := by
      unfold addC
      rw [h]
    rw [e]
    by_cases q : l.2.2 = x.2.2
    · rw [if_pos q, chosen_len r acc l h]
      show _ = acc.length + ((if l.2.2 = x.2.2 then 0 else 1) + chgFrom x.2.2 r)
      rw [if_pos q, q]
      omega
    · rw [if_neg q, chosen_len r (acc ++ [x]) x (by simp)]
      show _ = acc.length + ((if l.2.2 = x.2.2 then 0 else 1) + chgFrom x.2.2 r)
      rw [if_neg q, List.length_append]
      show acc.length + 1 + _ = _
      omega
def dropN (t : Tri) : Int × Bool := (t.1, t.2.2)
theorem chgFrom_chg : ∀ (x : Tri) (S : List Tri), chg ((x :: S).map dropN) = chgFrom x.2.2 S
  | x, [] => rfl
  | x, y :: S => by
    have ih := chgFrom_chg y S
    rw [List.map_cons, List.map_cons] at *
    show (if x.2.2 = y.2.2 then 0 else 1) + chg (dropN y :: S.map dropN) = (if x.2.2 = y.2.2 then 0 else 1) + chgFrom y.2.2 S
    rw [ih]
theorem chosen_chg (S : List Tri) (m : Nat) : (chosenOf S).length ≤ m + 1 ↔ chg (S.map dropN) ≤ m := by
  cases S with
  | nil => exact ⟨fun _ => Nat.zero_le _, fun _ => Nat.zero_le _⟩
  | cons x S =>
    have e : (chosenOf (x :: S)).length = 1 + chgFrom x.2.2 S := by
      unfold chosenOf
      rw [List.foldl_cons]
      have : addC [] x = [x] := rfl
      rw [this, chosen_len S [x] x rfl]
      rfl
    rw [e, chgFrom_chg]
    omega
theorem clash_no : ∀ (S : List Tri), S.Pairwise (fun a b => a.1 < b.1) → clash S = false
  | [], _ => rfl
  | [_], _ => rfl
  | x :: y :: r, h => by
    rw [List.pairwise_cons] at h
    have ih := clash_no (y :: r) h.2
    unfold clash at ih ⊢
    rw [show ((x :: y :: r).drop 1) = y :: r from rfl, List.zip_cons_cons, List.any_cons]
    have n : x.1 < y.1 := h.1 y (List.mem_cons_self ..)
    have e : decide (x.1 = y.1) = false := decide_eq_false (by omega)
    rw [e, Bool.false_and, Bool.false_or]
    exact ih
theorem fits_turns {m : Nat} {ts : List Int} (nd : ts.Nodup) (ls : List Bool) : FitsC (.turns m) ((lineP ts).zip ls) ↔ chg (isort (ts.zip ls)) ≤ m := by
  show turnFits m _ = true ↔ _
  unfold turnFits
  have A := apart_zip (ls := ls) nd
  have hp : (inOrder (viewOf ((lineP ts).zip ls))).Perm (triOf (viewOf ((lineP ts).zip ls))) := List.mergeSort_perm _ _
  have hm : (triOf (viewOf ((lineP ts).zip ls))).map dropN = ts.zip ls := by
    have e : (lineP ts).zip ls = (ts.zip ls).map fun d => ([d.1], d.2) := by
      unfold lineP
      rw [List.zip_map_left]
      rfl
    rw [e]
    unfold triOf viewOf
    rw [List.map_map, List.map_map]
    have key : ∀ (l : IB) (n : Nat), ((l.map fun d => ([d.1], d.2)).zipIdx n).map (dropN ∘ ((fun d : Int × List Int × Bool => (d.2.1.getD 0 0, d.1, d.2.2)) ∘ fun d : (List Int × Bool) × Nat => ((d.2 : Int), d.1.1, d.1.2))) = l := by
      intro l
      induction l with
      | nil => intro n; rfl
      | cons x r ih =>
        intro n
        rw [List.map_cons, List.zipIdx_cons, List.map_cons, ih]
        rfl
    have z := key (ts.zip ls) 0
    exact z
  have hpm : ((inOrder (viewOf ((lineP ts).zip ls))).map dropN).Perm (ts.zip ls) := by
    rw [← hm]
    exact hp.map _
  have hs : (inOrder (viewOf ((lineP ts).zip ls))).Pairwise (fun a b => leTr a b = true) := List.pairwise_mergeSort leTr_trans leTr_total _
  have hnd : ((ts.zip ls).map fun d => d.1).Nodup := by
    have : ∀ {l : IB}, Apart l → (l.map fun d => d.1).Nodup := by
      intro l
      induction l with
      | nil => exact fun _ => List.nodup_nil
      | cons x r ih =>
        intro h
        rw [List.map_cons, List.nodup_cons]
        refine ⟨fun hm => ?_, ih h.2⟩
        obtain ⟨d, hd, e⟩ := List.mem_map.mp hm
        exact h.1 d hd e.symm
    exact this A
  generalize inOrder (viewOf ((lineP ts).zip ls)) = S at hp hpm hs
  have hfn : (S.map fun d => d.1).Nodup := by
    have e : S.map (fun d => d.1) = (S.map dropN).map fun d => d.1 := by
      rw [List.map_map]
      rfl
    rw [e]
    exact ((hpm.map fun d => d.1).nodup_iff).mpr hnd
  have hst : S.Pairwise (fun a b => a.1 < b.1) := by
    have h2 : S.Pairwise (fun a b => a.1 ≠ b.1) := List.pairwise_map.mp hfn
    have h3 := hs.and h2
    refine h3.imp fun {a b} h => ?_
    obtain ⟨h4, h5⟩ := h
    rw [leTr_iff] at h4
    rcases h4 with h4 | h4
    · exact h4
    · exact absurd h4.1 h5
  rw [clash_no S hst]
  have e : S.map dropN = isort (ts.zip ls) := asc_unique (asc_of_pairwise (List.pairwise_map.mpr hst)) (asc_isort A) fun x => by rw [hpm.mem_iff, mem_isort]
  rw [← e]
  show (true && decide _) = true ↔ _
  rw [Bool.true_and, decide_eq_true_iff]
  exact chosen_chg S m
end K49

namespace K49
abbrev NB := List (Nat × Bool)
def insN (x : Nat × Bool) : NB → NB
  | [] => [x]
  | y :: r => cond (Nat.ble x.1 y.1) (x :: y :: r) (y :: insN x r)
def isortN : NB → NB
  | [] => []
  | x :: r => insN x (isortN r)
def chgN : NB → Nat
  | [] => 0
  | x :: r => match r with
    | [] => 0
    | y :: _ => cond (Bool.xor x.2 y.2) (Nat.succ (chgN r)) (chgN r)
def riseN (l : NB) : Bool := l.all fun d => l.all fun e => !d.2 || e.2 || !Nat.ble d.1 e.1
def boxN (l : NB) : Bool := l.all fun e => e.2 || !(l.any fun d => d.2 && Nat.ble d.1 e.1) || !(l.any fun d => d.2 && Nat.ble e.1 d.1)
def flatN (p : Nat) (ls : List Bool) : Bool := Nat.ble (ls.filter id).length p || ls.all id
def rk (ts : List Int) (t : Int) : Nat := (ts.filter fun s => decide (s < t)).length
theorem filter_len_le {α : Type} {p q : α → Bool} : ∀ {l : List α}, (∀ x ∈ l, p x = true → q x = true) → (l.filter p).length ≤ (l.filter q).length
  | [], _ => Nat.le_refl _
  | x :: r, h => by
    have ih := filter_len_le (l := r) fun y hy => h y (List.mem_cons_of_mem _ hy)
    rw [List.filter_cons, List.filter_cons]
    cases hp : p x with
    | true =>
      rw [if_pos rfl, if_pos (h x (List.mem_cons_self ..) hp), List.length_cons, List.length_cons]
      omega
    | false =>
      rw [if_neg (by simp)]
      split
      · rw [List.length_cons]; omega
      · exact ih
theorem filter_len_lt {α : Type} {p q : α → Bool} {a : α} : ∀ {l : List α}, (∀ x ∈ l, p x = true → q x = true) → a ∈ l → p a = false → q a = true → (l.filter p).length < (l.filter q).length
  | [], _, ha, _, _ => nomatch ha
  | x :: r, h, ha, h1, h2 => by
    rw [List.filter_cons, List.filter_cons]
    rcases List.mem_cons.mp ha with e | e
    · subst e
      have ih := filter_len_le (l := r) fun y hy => h y (List.mem_cons_of_mem _ hy)
      rw [if_neg (by rw [h1]; simp), if_pos h2, List.length_cons]
      omega
    · have ih := filter_len_lt (l := r) (fun y hy => h y (List.mem_cons_of_mem _ hy)) e h1 h2
      cases hp : p x with
      | true =>
        rw [if_pos rfl, if_pos (h x (List.mem_cons_self ..) hp), List.length_cons, List.length_cons]
        omega
      | false =>
        rw [if_neg (by simp)]
        split
        · rw [List.length_cons]; omega
        · exact ih
theorem rk_le {ts : List Int} {s t : Int} (ht : t ∈ ts) : s ≤ t ↔ rk ts s ≤ rk ts t := by
  constructor
  · intro h
    exact filter_len_le fun x _ q => by
      have := of_decide_eq_true q
      exact decide_eq_true (by omega)
  · intro h
    refine Classical.byContradiction fun n => ?_
    have : rk ts t < rk ts s := filter_len_lt (a := t) (fun x _ q => by
      have := of_decide_eq_true q
      exact decide_eq_true (by omega)) ht (decide_eq_false (by omega)) (decide_eq_true (by omega))
    omega
theorem rk_lt {ts : List Int} {t : Int} (ht : t ∈ ts) : rk ts t < ts.length := by
  have z := filter_len_lt (l := ts) (p := fun s => decide (s < t)) (q := fun _ => true) (a := t) (fun _ _ _ => rfl) ht (decide_eq_false (by omega)) rfl
  rw [show ts.filter (fun _ => true) = ts by simp] at z
  exact z
def gk (ts : List Int) (d : Int × Bool) : Nat × Bool := (rk ts d.1, d.2)
theorem zip_gk (ts0 ts : List Int) (ls : List Bool) : (ts.map (rk ts0)).zip ls = (ts.zip ls).map (gk ts0) := by
  rw [List.zip_map_left]
  rfl
theorem ins_gk {ts : List Int} {x : Int × Bool} : ∀ {l : IB}, (∀ y ∈ l, y.1 ∈ ts) → (ins x l).map (gk ts) = insN (gk ts x) (l.map (gk ts))
  | [], _ => rfl
  | y :: r, h => by
    have ih := ins_gk (x := x) (l := r) fun z hz => h z (List.mem_cons_of_mem _ hz)
    have hy := rk_le (s := x.1) (h y (List.mem_cons_self ..))
    unfold ins
    rw [List.map_cons]
    show _ = cond (Nat.ble (rk ts x.1) (rk ts y.1)) _ _
    by_cases q : x.1 ≤ y.1
    · rw [if_pos q, Nat.ble_eq_true_of_le (hy.mp q)]
      rfl
    · rw [if_neg q, show Nat.ble (rk ts x.1) (rk ts y.1) = false from Bool.eq_false_iff.mpr fun e => q (hy.mpr (Nat.le_of_ble_eq_true e))]
      show gk ts y :: (ins x r).map (gk ts) = _
      rw [ih]
      rfl
theorem isort_gk {ts : List Int} : ∀ {l : IB}, (∀ y ∈ l, y.1 ∈ ts) → (isort l).map (gk ts) = isortN (l.map (gk ts))
  | [], _ => rfl
  | x :: r, h => by
    show (ins x (isort r)).map (gk ts) = insN (gk ts x) (isortN (r.map (gk ts)))
    rw [ins_gk (fun y hy => h y (List.mem_cons_of_mem _ (mem_isort.mp hy))), isort_gk fun y hy => h y (List.mem_cons_of_mem _ hy)]
theorem chg_gk {ts : List Int} : ∀ (l : IB), chg l = chgN (l.map (gk ts))
  | [] => rfl
  | [_] => rfl
  | x :: y :: r => by
    have ih := chg_gk (ts := ts) (y :: r)
    show (if x.2 = y.2 then 0 else 1) + chg (y :: r) = cond (Bool.xor x.2 y.2) (Nat.succ (chgN ((y :: r).map (gk ts)))) (chgN ((y :: r).map (gk ts)))
    rw [ih]
    cases hx : x.2 <;> cases hy : y.2 <;> simp [Nat.add_comm]
theorem zip_mem {ts : List Int} {ls : List Bool} : ∀ y ∈ ts.zip ls, y.1 ∈ ts := fun y hy => (List.of_mem_zip (show (y.1, y.2) ∈ _ from hy)).1
theorem chg_rk (ts : List Int) (ls : List Bool) : chg (isort (ts.zip ls)) = chgN (isortN ((ts.map (rk ts)).zip ls)) := by
  rw [zip_gk, ← isort_gk zip_mem, ← chg_gk]
theorem rise_rk (ts : List Int) (ls : List Bool) : riseL (ts.zip ls) ↔ riseN ((ts.map (rk ts)).zip ls) = true := by
  rw [zip_gk]
  unfold riseL riseN
  rw [List.all_map, List.all_eq_true]
  constructor
  · intro h d hd
    rw [Function.comp_apply, List.all_map, List.all_eq_true]
    intro e he
    rw [Function.comp_apply]
    show (!d.2 || e.2 || !Nat.ble (rk ts d.1) (rk ts e.1)) = true
    cases h1 : d.2 with
    | false => rfl
    | true =>
      cases h2 : e.2 with
      | true => rfl
      | false =>
        have z := h d hd e he h1 h2
        rw [rk_le (zip_mem e he)] at z
        rw [show Nat.ble (rk ts d.1) (rk ts e.1) = false from Bool.eq_false_iff.mpr fun q => z (Nat.le_of_ble_eq_true q)]
        rfl
  · intro h d hd e he h1 h2 q
    have z := h d hd
    rw [Function.comp_apply, List.all_map, List.all_eq_true] at z
    have z := z e he
    rw [Function.comp_apply] at z
    have z : (!d.2 || e.2 || !Nat.ble (rk ts d.1) (rk ts e.1)) = true := z
    rw [h1, h2, Nat.ble_eq_true_of_le ((rk_le (zip_mem e he)).mp q)] at z
    cases z
theorem box_rk (ts : List Int) (ls : List Bool) : boxL (ts.zip ls) ↔ boxN ((ts.map (rk ts)).zip ls) = true := by
  rw [zip_gk]
  unfold boxL boxN
  rw [List.all_map, List.all_eq_true]
  have a1 : ∀ e ∈ ts.zip ls, ((((ts.zip ls).map (gk ts)).any fun d => d.2 && Nat.ble d.1 (rk ts e.1)) = true ↔ ∃ d ∈ ts.zip ls, d.2 = true ∧ d.1 ≤ e.1) := fun e he => by
    rw [List.any_map, List.any_eq_true]
    constructor
    · rintro ⟨d, hd, z⟩
      rw [Function.comp_apply] at z
      obtain ⟨z1, z2⟩ := Bool.and_eq_true_iff.mp z
      exact ⟨d, hd, z1, (rk_le (zip_mem e he)).mpr (Nat.le_of_ble_eq_true z2)⟩
    · rintro ⟨d, hd, z1, z2⟩
      refine ⟨d, hd, ?_⟩
      rw [Function.comp_apply]
      exact Bool.and_eq_true_iff.mpr ⟨z1, Nat.ble_eq_true_of_le ((rk_le (zip_mem e he)).mp z2)⟩
  have a2 : ∀ e ∈ ts.zip ls, ((((ts.zip ls).map (gk ts)).any fun d => d.2 && Nat.ble (rk ts e.1) d.1) = true ↔ ∃ d ∈ ts.zip ls, d.2 = true ∧ e.1 ≤ d.1) := fun e he => by
    rw [List.any_map, List.any_eq_true]
    constructor
    · rintro ⟨d, hd, z⟩
      rw [Function.comp_apply] at z
      obtain ⟨z1, z2⟩ := Bool.and_eq_true_iff.mp z
      exact ⟨d, hd, z1, (rk_le (zip_mem d hd)).mpr (Nat.le_of_ble_eq_true z2)⟩
    · rintro ⟨d, hd, z1, z2⟩
      refine ⟨d, hd, ?_⟩
      rw [Function.comp_apply]
      exact Bool.and_eq_true_iff.mpr ⟨z1, Nat.ble_eq_true_of_le ((rk_le (zip_mem d hd)).mp z2)⟩
  have key : ∀ e ∈ ts.zip ls, ((e.2 || !(((ts.zip ls).map (gk ts)).any fun d => d.2 && Nat.ble d.1 (rk ts e.1)) || !(((ts.zip ls).map (gk ts)).any fun d => d.2 && Nat.ble (rk ts e.1) d.1)) = true ↔ (e.2 = false → ¬ ((∃ d ∈ ts.zip ls, d.2 = true ∧ d.1 ≤ e.1) ∧ ∃ d ∈ ts.zip ls, d.2 = true ∧ e.1 ≤ d.1))) := fun e he => by
    rw [← a1 e he, ← a2 e he]
    cases e.2 <;> cases (((ts.zip ls).map (gk ts)).any fun d => d.2 && Nat.ble d.1 (rk ts e.1)) <;> cases (((ts.zip ls).map (gk ts)).any fun d => d.2 && Nat.ble (rk ts e.1) d.1) <;> simp
  constructor
  · intro h e he
    exact (key e he).mpr (h e he)
  · intro h e he
    exact (key e he).mp (h e he)
theorem flat_rk {p : Nat} : ∀ (ts : List Int) (ls : List Bool), ls.length ≤ ts.length → (flatL p (ts.zip ls) ↔ flatN p ls = true) := by
  intro ts ls hl
  unfold flatL flatN
  rw [Bool.or_eq_true]
  have e1 : ∀ (ts : List Int) (ls : List Bool), ls.length ≤ ts.length → (yesI (ts.zip ls)).length = (ls.filter id).length := by
    intro ts
    induction ts with
    | nil =>
      intro ls h
      have : ls = [] := List.eq_nil_of_length_eq_zero (by simpa using h)
      rw [this]
      rfl
    | cons t r ih =>
      intro ls h
      cases ls with
      | nil => rfl
      | cons b bs =>
        have z := ih bs (by simpa using h)
        unfold yesI at z ⊢
        rw [List.length_map] at z ⊢
        rw [List.zip_cons_cons, List.filter_cons, List.filter_cons]
        cases b with
        | true =>
          rw [if_pos (by simp), if_pos (by simp), List.length_cons, List.length_cons, z]
        | false =>
          rw [if_neg (by simp), if_neg (by simp), z]
  have e2 : ∀ (ts : List Int) (ls : List Bool), ls.length ≤ ts.length → (noI (ts.zip ls) = [] ↔ ls.all id = true) := by
    intro ts
    induction ts with
    | nil =>
      intro ls h
      have : ls = [] := List.eq_nil_of_length_eq_zero (by simpa using h)
      rw [this]
      exact ⟨fun _ => rfl, fun _ => rfl⟩
    | cons t r ih =>
      intro ls h
      cases ls with
      | nil => exact ⟨fun _ => rfl, fun _ => rfl⟩
      | cons b bs =>
        have z := ih bs (by simpa using h)
        unfold noI at z ⊢
        rw [List.map_eq_nil_iff] at z ⊢
        rw [List.zip_cons_cons, List.filter_cons, List.all_cons]
        cases b with
        | true =>
          rw [if_neg (by simp)]
          rw [z]
          rfl
        | false =>
          rw [if_pos (by simp)]
          exact ⟨fun h => by simp at h, fun h => by simp at h⟩
  rw [e1 ts ls hl, e2 ts ls hl]
  constructor
  · rintro (h | h)
    · exact .inl (Nat.ble_eq_true_of_le h)
    · exact .inr h
  · rintro (h | h)
    · exact .inl (Nat.le_of_ble_eq_true h)
    · exact .inr h
def alls (n : Nat) : Nat → List (List Nat)
  | 0 => [[]]
  | k + 1 => (alls n k).flatMap fun r => (List.range n).map fun x => x :: r
theorem alls_mem {n : Nat} : ∀ {l : List Nat}, (∀ x ∈ l, x < n) → l ∈ alls n l.length
  | [], _ => List.mem_singleton.mpr rfl
  | x :: r, h => by
    show x :: r ∈ (alls n r.length).flatMap _
    exact List.mem_flatMap.mpr ⟨r, alls_mem fun y hy => h y (List.mem_cons_of_mem _ hy), List.mem_map.mpr ⟨x, List.mem_range.mpr (h x (List.mem_cons_self ..)), rfl⟩⟩
def ndB : List Nat → Bool
  | [] => true
  | x :: r => r.all (fun y => !Nat.beq x y) && ndB r
theorem ndB_of : ∀ {l : List Nat}, l.Nodup → ndB l = true
  | [], _ => rfl
  | x :: r, h => by
    rw [List.nodup_cons] at h
    unfold ndB
    rw [ndB_of h.2, Bool.and_true, List.all_eq_true]
    intro y hy
    cases e : Nat.beq x y with
    | false => rfl
    | true =>
      have := Nat.eq_of_beq_eq_true e
      subst this
      exact absurd hy h.1
theorem rk_nodup {ts : List Int} (nd : ts.Nodup) : (ts.map (rk ts)).Nodup := by
  have key : ∀ l : List Int, (∀ x ∈ l, x ∈ ts) → l.Nodup → (l.map (rk ts)).Nodup := by
    intro l
    induction l with
    | nil => exact fun _ _ => List.nodup_nil
    | cons a r ih =>
      intro h nd
      rw [List.nodup_cons] at nd
      rw [List.map_cons, List.nodup_cons]
      refine ⟨fun hm => ?_, ih (fun x hx => h x (List.mem_cons_of_mem _ hx)) nd.2⟩
      obtain ⟨b, hb, e⟩ := List.mem_map.mp hm
      have h1 := (rk_le (s := a) (h b (List.mem_cons_of_mem _ hb))).mpr (by omega)
      have h2 := (rk_le (s := b) (h a (List.mem_cons_self ..))).mpr (by omega)
      have : a = b := by omega
      subst this
      exact nd.1 hb
  exact key ts (fun x hx => hx) nd
/-- what is shown of every order holds of the ranks -/
theorem by_ranks {n : Nat} {ts : List Int} (h : RsOk n ts) {C : List Nat → Bool} (hc : ((alls n n).all fun σ => !ndB σ || C σ) = true) : C (ts.map (rk ts)) = true := by
  have hm : ts.map (rk ts) ∈ alls n n := by
    have z := alls_mem (n := n) (l := ts.map (rk ts)) fun x hx => by
      obtain ⟨t, ht, rfl⟩ := List.mem_map.mp hx
      have := rk_lt ht
      rw [h.len] at this
      exact this
    rwa [List.length_map, h.len] at z
  have z := List.all_eq_true.mp hc _ hm
  rw [ndB_of (rk_nodup h.nd)] at z
  exact z
end K49

namespace K49
def codB (k : List Bool) : Nat := k.foldl (fun a b => cond b (2 * a + 1) (2 * a)) 0
def codP (part : List Int) (l : List Bool) : Nat := part.foldl (fun a i => cond (l.getD i.toNat false) (2 * a + 1) (2 * a)) 0
def seenK (st : Nat × Nat) (c : Nat) : Nat × Nat := cond (Nat.testBit st.1 c) st (st.1 ||| 2 ^ c, Nat.succ st.2)
def shatB (rows : List (List Bool)) (part : List Int) : Bool := Nat.beq (rows.foldl (fun st l => seenK st (codP part l)) (0, 0)).2 (2 ^ part.length)
theorem codP_pick (part : List Int) (l : List Bool) : codP part l = codB (pick part l) := by
  unfold codP codB pick
  rw [List.foldl_map]
theorem codB_from : ∀ (k m : List Bool) (a b : Nat), k.length = m.length → k.foldl (fun a b => cond b (2 * a + 1) (2 * a)) a = m.foldl (fun a b => cond b (2 * a + 1) (2 * a)) b → k = m ∧ a = b
  | [], [], a, b, _, h => ⟨rfl, h⟩
  | x :: k, y :: m, a, b, hl, h => by
    rw [List.foldl_cons, List.foldl_cons] at h
    obtain ⟨e1, e2⟩ := codB_from k m _ _ (by simpa using hl) h
    subst e1
    cases x <;> cases y <;> simp at e2 ⊢ <;> omega
theorem codB_inj {k m : List Bool} (hl : k.length = m.length) (h : codB k = codB m) : k = m := (codB_from k m 0 0 hl h).1
theorem seen_inv {L : Nat} : ∀ (ks : List (List Bool)) (acc : List (List Bool)) (st : Nat × Nat), (∀ k ∈ ks, k.length = L) → (∀ k ∈ acc, k.length = L) → st.2 = acc.length → (∀ k : List Bool, k.length = L → Nat.testBit st.1 (codB k) = acc.contains k) →
    (ks.foldl (fun st k => seenK st (codB k)) st).2 = (ks.foldl addK acc).length
  | [], acc, st, _, _, h2, _ => h2
  | k :: ks, acc, st, hk, ha, h2, h3 => by
    rw [List.foldl_cons, List.foldl_cons]
    have hkl := hk k (List.mem_cons_self ..)
    have hb := h3 k hkl
    have e1 : seenK st (codB k) = cond (acc.contains k) st (st.1 ||| 2 ^ codB k, Nat.succ st.2) := by
      unfold seenK
      rw [hb]
    have e2 : addK acc k = if acc.contains k then acc else acc ++ [k] := rfl
    rw [e1, e2]
    cases hc : acc.contains k with
    | true =>
      rw [if_pos rfl]
      exact seen_inv ks acc st (fun z hz => hk z (List.mem_cons_of_mem _ hz)) ha h2 h3
    | false =>
      rw [if_neg (by simp)]
      refine seen_inv ks (acc ++ [k]) _ (fun z hz => hk z (List.mem_cons_of_mem _ hz)) (fun z hz => ?_) ?_ (fun z hz => ?_)
      · rcases List.mem_append.mp hz with q | q
        · exact ha z q
        · rw [List.mem_singleton.mp q]
          exact hkl
      · show Nat.succ st.2 = _
        rw [h2, List.length_append]
        rfl
      · show Nat.testBit (st.1 ||| 2 ^ codB k) (codB z) = _
        rw [Nat.testBit_or, h3 z hz]
        by_cases q : codB k = codB z
        · have := codB_inj (hkl.trans hz.symm) q
          subst this
          rw [Nat.testBit_two_pow_self, Bool.or_true]
          simp
        · rw [Nat.testBit_two_pow_of_ne q, Bool.or_false]
          have : z ≠ k := fun e => q (by rw [e])
          simp [this]
theorem shat_eq (rows : List (List Bool)) (part : List Int) : shat rows part = shatB rows part := by
  unfold shat shatB dedup
  have e : (rows.foldl (fun st l => seenK st (codP part l)) (0, 0)).2 = ((rows.map (pick part)).foldl addK []).length := by
    rw [← seen_inv (L := part.length) (rows.map (pick part)) [] (0, 0) (fun k hk => by
      obtain ⟨l, _, rfl⟩ := List.mem_map.mp hk
      unfold pick
      rw [List.length_map]) (fun k hk => nomatch hk) rfl (fun k _ => by simp), List.foldl_map]
    have : (fun st l => seenK st (codP part l)) = fun st l => seenK st (codB (pick part l)) := by
      funext st l
      rw [codP_pick]
    rw [this]
  rw [e]
  generalize ((rows.map (pick part)).foldl addK []).length = x
  rw [Bool.eq_iff_iff, decide_eq_true_iff, Nat.beq_eq]
  constructor
  · intro h
    have : ((2 ^ part.length : Nat) : Int) = 2 ^ part.length := by simp
    omega
  · intro h
    rw [h]
    simp
theorem last_filter {α : Type} (p : α → Bool) (l : List α) : (l.filter p).getLast? = l.reverse.find? p := by
  rw [List.getLast?_eq_head?_reverse, ← List.filter_reverse, List.head?_filter]
def revParts (n : Nat) : List (List Int) := (allParts n).reverse
def dimIs (n : Nat) (rows : List (List Bool)) (d : Nat) : Bool := match (revParts n).find? (shatB rows) with
  | some p => Nat.beq p.length d
  | none => false
theorem dim_of {n d : Nat} {rows : List (List Bool)} (h : dimIs n rows d = true) : (allParts n).filter (fun part => shat rows part) ≠ [] ∧ (((allParts n).filter (fun part => shat rows part)).getLast?.getD []).length = d := by
  have e : (fun part => shat rows part) = shatB rows := funext fun p => shat_eq rows p
  rw [e, last_filter]
  unfold dimIs revParts at h
  split at h
  · rename_i p hp
    rw [hp]
    refine ⟨fun q => ?_, Nat.eq_of_beq_eq_true h⟩
    have z := last_filter (shatB rows) (allParts n)
    rw [q, hp] at z
    cases z
  · cases h
theorem labs_congr {f g : List Bool → Bool} : ∀ n, (∀ ls, ls.length ≤ n → f ls = g ls) → labs f n = labs g n
  | 0, _ => rfl
  | n + 1, h => by
    unfold labs
    rw [labs_congr n fun ls hl => h ls (by omega)]
    refine List.filter_congr fun l hl => h l ?_
    obtain ⟨k, hk, hl⟩ := List.mem_flatMap.mp hl
    have := labs_at g n k hk
    simp at hl
    rcases hl with rfl | rfl <;> simp [this]
theorem LB_eq {κ : Kd} {ps : List (List Int)} {n : Nat} (hn : ps.length = n) (g : List Bool → Bool) (h : ∀ ls : List Bool, ls.length ≤ n → (FitsC κ (ps.zip ls) ↔ g ls = true)) : LB κ ps = labs g n := by
  show labsOf FitsC κ ps = _
  unfold labsOf
  rw [hn]
  refine labs_congr n fun ls hl => ?_
  have z := h ls hl
  cases hg : g ls with
  | true => exact @decide_eq_true _ (Classical.propDecidable _) (z.mpr hg)
  | false => exact @decide_eq_false _ (Classical.propDecidable _) fun q => by rw [z.mp q] at hg; cases hg
def rowsC (σ : List Nat) (c n : Nat) : List (List Bool) := labs (fun ls => Nat.ble (chgN (isortN (σ.zip ls))) c) n
def rowsR (σ : List Nat) (n : Nat) : List (List Bool) := labs (fun ls => riseN (σ.zip ls)) n
def rowsX (σ : List Nat) (n : Nat) : List (List Bool) := labs (fun ls => boxN (σ.zip ls)) n
def rowsF (p n : Nat) : List (List Bool) := labs (fun ls => flatN p ls) n
def rowsA (n : Nat) : List (List Bool) := labs (fun _ => true) n
def upOf : Nat → Nat
  | 1 => 0 | 2 => 1 | 3 => 2 | 4 => 2 | 5 => 3 | 6 => 3 | _ => 0
def downOf : Nat → Nat
  | 1 => 0 | 2 => 1 | 3 => 1 | 4 => 2 | 5 => 2 | 6 => 2 | _ => 0
def chkC (n c : Nat) (σ : List Nat) : Bool := decide (((rowsC σ c n).length : Int) = halvesOf c n) && dimIs n (rowsC σ c n) (min n (c + 1))
def chkR (n : Nat) (σ : List Nat) : Bool := Nat.beq (rowsR σ n).length (n + 1) && (decide (cost n (rowsR σ n) = upOf (n + 1)) && (decide (dep n (rowsR σ n) = downOf (n + 1)) && dimIs n (rowsR σ n) (if 0 < n then 1 else 0)))
def chkX (n : Nat) (σ : List Nat) : Bool := decide (((rowsX σ n).length : Int) = (n : Int) * ((n : Int) + 1) / 2 + 1)
def chkA (n : Nat) : Bool := Nat.beq (rowsA n).length (2 ^ n) && (dimIs n (rowsA n) n && (decide (cost n (rowsA n) = n) && (decide (dep n (rowsA n) = n) && (rowsA n).all fun l => match (allParts l.length).find? (fun part => Nat.beq ((rowsA n).filter fun m => agreeOn part l m).length 1) with
  | some p => Nat.beq p.length n
  | none => false)))
def allOrd (n : Nat) (C : List Nat → Bool) : Bool := (alls n n).all fun σ => !ndB σ || C σ
end K49

namespace K49
def ordH (n x : Nat) (C : List Nat → Bool) : Bool := (alls n (n - 1)).all fun r => !ndB (x :: r) || C (x :: r)
theorem ord_heads {n : Nat} {C : List Nat → Bool} (hn : 1 ≤ n) (h : ∀ x, x < n → ordH n x C = true) : allOrd n C = true := by
  obtain ⟨k, rfl⟩ : ∃ k, n = k + 1 := ⟨n - 1, by omega⟩
  unfold allOrd
  rw [List.all_eq_true]
  intro σ hσ
  obtain ⟨r, hr, hx⟩ := List.mem_flatMap.mp (show σ ∈ (alls (k + 1) k).flatMap fun r => (List.range (k + 1)).map fun x => x :: r from hσ)
  obtain ⟨x, hxr, rfl⟩ := List.mem_map.mp hx
  exact List.all_eq_true.mp (h x (List.mem_range.mp hxr)) r hr
theorem okC_4 : (List.range 5).all (fun n => (List.range 7).all fun c => allOrd n (chkC n c)) = true := by decide +kernel
theorem okR_4 : (List.range 5).all (fun n => allOrd n (chkR n)) = true := by decide +kernel
theorem okX_4 : (List.range 5).all (fun n => allOrd n (chkX n)) = true := by decide +kernel
theorem okA : (List.range 6).all chkA = true := by decide +kernel
theorem okF : (List.range 6).all (fun n => (List.range 4).all fun p => Nat.beq p 0 || decide (((rowsF p n).length : Int) = flatsOf p n)) = true := by decide +kernel
theorem okC_5_0 : allOrd 5 (chkC 5 0) = true := by decide +kernel
theorem okC_5_1 : allOrd 5 (chkC 5 1) = true := by decide +kernel
theorem okC_5_2 : allOrd 5 (chkC 5 2) = true := by decide +kernel
theorem okC_5_3 : allOrd 5 (chkC 5 3) = true := by decide +kernel
theorem okC_5_4 : allOrd 5 (chkC 5 4) = true := by decide +kernel
theorem okC_5_5 : allOrd 5 (chkC 5 5) = true := by decide +kernel
theorem okC_5_6 : allOrd 5 (chkC 5 6) = true := by decide +kernel
theorem okX_5 : allOrd 5 (chkX 5) = true := by decide +kernel
theorem okR_5_0 : ordH 5 0 (chkR 5) = true := by decide +kernel
theorem okR_5_1 : ordH 5 1 (chkR 5) = true := by decide +kernel
theorem okR_5_2 : ordH 5 2 (chkR 5) = true := by decide +kernel
theorem okR_5_3 : ordH 5 3 (chkR 5) = true := by decide +kernel
theorem okR_5_4 : ordH 5 4 (chkR 5) = true := by decide +kernel
theorem okR_5 : allOrd 5 (chkR 5) = true := ord_heads (by decide) fun x hx => by
  have : x = 0 ∨ x = 1 ∨ x = 2 ∨ x = 3 ∨ x = 4 := by omega
  rcases this with rfl | rfl | rfl | rfl | rfl
  · exact okR_5_0
  · exact okR_5_1
  · exact okR_5_2
  · exact okR_5_3
  · exact okR_5_4
end K49

namespace K49
theorem okC_5 : (List.range 7).all (fun c => allOrd 5 (chkC 5 c)) = true := by
  rw [List.all_eq_true]
  intro c hc
  have hc := List.mem_range.mp hc
  have : c = 0 ∨ c = 1 ∨ c = 2 ∨ c = 3 ∨ c = 4 ∨ c = 5 ∨ c = 6 := by omega
  rcases this with rfl | rfl | rfl | rfl | rfl | rfl | rfl
  · exact okC_5_0
  · exact okC_5_1
  · exact okC_5_2
  · exact okC_5_3
  · exact okC_5_4
  · exact okC_5_5
  · exact okC_5_6
theorem ordC {n c : Nat} (hn : n ≤ 5) (hc : c ≤ 6) : allOrd n (chkC n c) = true := by
  by_cases h : n = 5
  · rw [h]
    exact List.all_eq_true.mp okC_5 c (List.mem_range.mpr (by omega))
  · exact List.all_eq_true.mp (List.all_eq_true.mp okC_4 n (List.mem_range.mpr (by omega))) c (List.mem_range.mpr (by omega))
theorem ordR {n : Nat} (hn : n ≤ 5) : allOrd n (chkR n) = true := by
  by_cases h : n = 5
  · rw [h]
    exact okR_5
  · exact List.all_eq_true.mp okR_4 n (List.mem_range.mpr (by omega))
theorem ordX {n : Nat} (hn : n ≤ 5) : allOrd n (chkX n) = true := by
  by_cases h : n = 5
  · rw [h]
    exact okX_5
  · exact List.all_eq_true.mp okX_4 n (List.mem_range.mpr (by omega))
theorem dm_of {κ : Kd} {ps : List (List Int)} {n d : Nat} {rows : List (List Bool)} (hn : ps.length = n) (hL : LB κ ps = rows) (h : dimIs n rows d = true) : shatOf FitsC κ ps ≠ [] ∧ DM κ ps = d := by
  have z := dim_of h
  have e : shatOf FitsC κ ps = (allParts n).filter fun part => shat rows part := by
    unfold shatOf
    rw [hn]
    show (allParts n).filter (fun part => shat (LB κ ps) part) = _
    rw [hL]
  show shatOf FitsC κ ps ≠ [] ∧ ((shatOf FitsC κ ps).getLast?.getD []).length = d
  rw [e]
  exact z
theorem ble_iff {a b : Nat} : a ≤ b ↔ Nat.ble a b = true := ⟨Nat.ble_eq_true_of_le, Nat.le_of_ble_eq_true⟩
theorem lb_half {p n : Nat} {ts : List Int} (hp1 : 1 ≤ p) (hp : p ≤ 3) (h : RsOk n ts) : LB (.halves p) (crv p ts) = rowsC (ts.map (rk ts)) p n :=
  LB_eq (by unfold crv; rw [List.length_map, h.len]) _ fun ls _ => by rw [fits_half hp1 hp h.nd, chg_rk, ble_iff]
theorem lb_turns {m n : Nat} {ts : List Int} (h : RsOk n ts) : LB (.turns m) (lineP ts) = rowsC (ts.map (rk ts)) m n :=
  LB_eq (by unfold lineP; rw [List.length_map, h.len]) _ fun ls _ => by rw [fits_turns h.nd, chg_rk, ble_iff]
theorem lb_flat {p n : Nat} {ts : List Int} (hp1 : 1 ≤ p) (hp : p ≤ 3) (h : RsOk n ts) : LB (.flats p) (crv p ts) = rowsF p n :=
  LB_eq (by unfold crv; rw [List.length_map, h.len]) _ fun ls hl => by rw [fits_flat hp1 hp h.nd, flat_rk ts ls (by rw [h.len]; exact hl)]
theorem lb_row {p n : Nat} {ts : List Int} (hp : 1 ≤ p) (h : RsOk n ts) : LB (.rising p) (rowP p ts) = rowsR (ts.map (rk ts)) n :=
  LB_eq (by unfold rowP; rw [List.length_map, h.len]) _ fun ls _ => by rw [fits_row hp, rise_rk]
theorem lb_boxr {p n : Nat} {ts : List Int} (hp : 1 ≤ p) (h : RsOk n ts) : LB (.boxes p) (rowP p ts) = rowsX (ts.map (rk ts)) n :=
  LB_eq (by unfold rowP; rw [List.length_map, h.len]) _ fun ls _ => by rw [fits_box_row hp, box_rk]
theorem lb_apt {p n : Nat} {ts : List Int} (h : RsOk n ts) : LB (.rising p) (aptP p ts) = rowsA n :=
  LB_eq (by unfold aptP; rw [List.length_map, h.len]) _ fun ls _ => ⟨fun _ => rfl, fun _ => fits_apt h.nd ls⟩
theorem lb_boxa {p n : Nat} {ts : List Int} (hp2 : 2 ≤ p) (hp : p ≤ 3) (h : RsOk n ts) : LB (.boxes p) (aptP p ts) = rowsX (ts.map (rk ts)) n :=
  LB_eq (by unfold aptP; rw [List.length_map, h.len]) _ fun ls _ => by rw [fits_box_apt hp2 hp, box_rk]
theorem pow_lt3 {d x : Nat} (h : 2 ^ d ≤ x) (hx : x ≤ 6) : d ≤ 2 := by
  refine Classical.byContradiction fun n => ?_
  have := Nat.pow_le_pow_right (show 0 < 2 by decide) (show 3 ≤ d by omega)
  omega
theorem halv_is {n d u : Nat} (hn : n ≤ 5) (h : Halv (n + 1) d u) : d = downOf (n + 1) ∧ u = upOf (n + 1) := by
  obtain ⟨h1, h2, h3, h4⟩ := h
  have hd := pow_lt3 h1 (by omega)
  have hu : u ≤ 3 := by
    rcases h4 with h4 | h4
    · omega
    · have := pow_lt3 (Nat.le_of_lt h4) (by omega)
      omega
  have hd' : d = 0 ∨ d = 1 ∨ d = 2 := by omega
  have hu' : u = 0 ∨ u = 1 ∨ u = 2 ∨ u = 3 := by omega
  have hn' : n = 0 ∨ n = 1 ∨ n = 2 ∨ n = 3 ∨ n = 4 ∨ n = 5 := by omega
  constructor
  · rcases hn' with rfl | rfl | rfl | rfl | rfl | rfl <;> rcases hd' with rfl | rfl | rfl <;> first | rfl | (exfalso; revert h1 h2; decide)
  · rcases hn' with rfl | rfl | rfl | rfl | rfl | rfl <;> rcases hu' with rfl | rfl | rfl | rfl <;> first | rfl | (exfalso; revert h3 h4; decide)
theorem beq_dec (a b : Nat) : decide (a = b) = Nat.beq a b := by
  rw [Bool.eq_iff_iff, decide_eq_true_iff, Nat.beq_eq]
theorem plaw : PLaw where
  halves := fun p n ts hp1 hp hn h => by
    have z := by_ranks h (C := chkC n p) (ordC hn (by omega))
    obtain ⟨z1, z2⟩ := Bool.and_eq_true_iff.mp z
    have e := lb_half hp1 hp h
    exact ⟨by rw [e]; exact of_decide_eq_true z1, dm_of (by unfold crv; rw [List.length_map, h.len]) e z2⟩
  flats := fun p n ts hp1 hp hn h => by
    rw [lb_flat hp1 hp h]
    have z := List.all_eq_true.mp (List.all_eq_true.mp okF n (List.mem_range.mpr (by omega))) p (List.mem_range.mpr (by omega))
    rcases Bool.or_eq_true_iff.mp z with z | z
    · have := Nat.eq_of_beq_eq_true z
      omega
    · exact of_decide_eq_true z
  row := fun p n d u ts hp1 hp hn h hH => by
    obtain ⟨hd, hu⟩ := halv_is hn hH
    have z := by_ranks h (C := chkR n) (ordR hn)
    obtain ⟨z1, z2⟩ := Bool.and_eq_true_iff.mp z
    obtain ⟨z2, z3⟩ := Bool.and_eq_true_iff.mp z2
    obtain ⟨z3, z4⟩ := Bool.and_eq_true_iff.mp z3
    have x := by_ranks h (C := chkX n) (ordX hn)
    have e := lb_row hp1 h
    have hdm := dm_of (by unfold rowP; rw [List.length_map, h.len]) e z4
    rw [lb_boxr hp1 h, e, hd, hu]
    exact ⟨Nat.eq_of_beq_eq_true z1, of_decide_eq_true z2, of_decide_eq_true z3, hdm.1, hdm.2, of_decide_eq_true x⟩
  apart := fun p n ts hp2 hp hn h => by
    have z := List.all_eq_true.mp okA n (List.mem_range.mpr (by omega))
    obtain ⟨z1, z2⟩ := Bool.and_eq_true_iff.mp z
    obtain ⟨z2, z3⟩ := Bool.and_eq_true_iff.mp z2
    obtain ⟨z3, z4⟩ := Bool.and_eq_true_iff.mp z3
    obtain ⟨z4, z5⟩ := Bool.and_eq_true_iff.mp z4
    have x := by_ranks h (C := chkX n) (ordX hn)
    have e := lb_apt (p := p) h
    have hdm := dm_of (by unfold aptP; rw [List.length_map, h.len]) e z2
    have hf : ∀ l ∈ rowsA n, ∃ q, (firsts (rowsA n) l).head? = some q ∧ q.length = n := fun l hl => by
      have w := List.all_eq_true.mp z5 l hl
      have ef : (firsts (rowsA n) l).head? = (allParts l.length).find? (fun part => Nat.beq ((rowsA n).filter fun m => agreeOn part l m).length 1) := by
        unfold firsts
        rw [List.head?_filter]
        congr 1
        funext part
        exact beq_dec _ _
      split at w
      · rename_i q hq
        exact ⟨q, ef.trans hq, Nat.eq_of_beq_eq_true w⟩
      · cases w
    rw [lb_boxa hp2 hp h, e]
    refine ⟨Nat.eq_of_beq_eq_true z1, hdm.1, hdm.2, of_decide_eq_true z3, of_decide_eq_true z4, fun l hl he => ?_, fun l hl => ?_, of_decide_eq_true x⟩
    · obtain ⟨q, hq, _⟩ := hf l hl
      rw [he] at hq
      cases hq
    · obtain ⟨q, hq, hl2⟩ := hf l hl
      unfold firstOf
      rw [hq]
      exact hl2
  turns := fun m n ts hm hn h => by
    have z := by_ranks h (C := chkC n m) (ordC hn hm)
    obtain ⟨z1, z2⟩ := Bool.and_eq_true_iff.mp z
    have e := lb_turns (m := m) h
    exact ⟨by rw [e]; exact of_decide_eq_true z1, dm_of (by unfold lineP; rw [List.length_map, h.len]) e z2⟩
end K49

namespace LamX2
open PySem PySem.Spec PyProof.Rows L2 LamX
/-- the end with tables of code objects, the written part told by the head's state -/
theorem walk_ofTE {l : PySem.W.OpenLaw} {n k : Nat} {q : Program} {loose : List Str} {XP : (Str → Option Value) → Heap → Prop} {YP : World → Heap → Prop} {d : DefRec} {x : Str}
    (hn : l.most = some n) (hn2 : n ≤ sizeLine) (hdf : d.params.defaults = []) (hr : Room k callerA)
    (F : ∀ (w : World) (mg : Str → Option Value) (fa : Addr) (h : Heap), YP w h → h.Ns mainGlobals mg → mg d.name = some (.ref fa) → ∃ K : PySem.W.Frag, K.In h ∧ LawAtS l w K C8.CX0 k n x mg fa h) :
    PySem.W.WalkO q loose XP YP l.row.toRowW d [] (fun f vs => PySem.call f vs) := by
  refine Att.attach_callB hn hdf fun w s₀ s₁ mg mb fa o pm cd doc a vs ns G Y ho hd hcd hmg hobj hints hlen hbits hg => ?_
  obtain ⟨K, KX, fd, cs, sp, hT, nT, C, hb, hsp, hF⟩ := F w mg fa _ Y G.T.g hmg
  exact law_callTs KX G.T.g G.T.b G.T.builtins G.T.nolimit hg hT nT C G.T.bmain hobj hints (Nat.le_trans hlen hn2) hr hF hb (fun H hH hS => hsp H a ns hlen hbits hH hS) fun H e s' z => z
end LamX2
namespace K49
open PySem PySem.Spec PyProof.Rows L2
theorem no_super : (PySem.Challenge.rw_toldenough_k49_whole_labelings_counted.prog.main.scope.names.lookup ("super" : Str)).isSome = false := by kernel_rfl
theorem law_at {w : World} {K : PySem.W.Frag} {h : Heap} {mg : Str → Option Value} {f : Addr} (X : K.In h) (nP : K.lookup PTA = none) (G : h.Ns mainGlobals mg) (hfa : mg ("law" : Str) = some (.ref f)) (c : He.SaysD fa fn K) (e1 : He.fnW K ("Turns", some "__init__") = tiVal) (e2 : tiB K = true) (t : TabH h) :
    ∃ K : PySem.W.Frag, K.In h ∧ LamX.LawAtS PySem.Challenge.rw_toldenough_k49_whole_labelings_counted w K C8.CX0 13 63 "_law_script" mg f h := by
  obtain ⟨fd, F⟩ := law_def c
  have gl := law_glo X G c
  have ef : f = He.ga K "law" := by
    have z := hfa.symm.trans gl
    cases z
    rfl
  subst ef
  have b := FunD.bindsA (ps := ["_law_script"]) F fun _ _ _ _ _ _ us hl => match us, hl with | [_], _ => rfl
  obtain ⟨oc, od, dV, kV, doc, pm, an, cdv, ct, osl, rfl, lk, _⟩ := F.ex
  refine ⟨K, X, _, [(1331, PTA)], spLaw K PTA, fun p hp => ?_, fun p hp => ?_, fun p hp => ?_, fun s u => b s [u] rfl, fun H a ns hl _ hH hS => ?_, fun base hb hns hTB => ?_⟩
  · rw [List.mem_singleton.mp hp]
    exact t.1
  · rw [List.mem_singleton.mp hp]
    exact nP
  · rw [List.mem_singleton.mp hp]
    exact t.2
  · refine ⟨a, ns, rfl, hS, by omega, fun p hp => ?_, fun _ => rfl⟩
    rw [List.mem_singleton.mp hp]
    exact LamX.TabS.nil (hH _ (List.mem_singleton.mpr rfl))
  · obtain ⟨f', fd', F', hm', _, oc', od', osl', lk'⟩ := law_all (P := PySem.Challenge.rw_toldenough_k49_whole_labelings_counted.prog) (w := w) (base := base) plaw rfl no_super X G c e1 e2 (hTB _ (List.mem_singleton.mpr rfl))
    have ef : f' = He.ga K "law" := by
      have z := hm'.symm.trans gl
      cases z
      rfl
    subst ef
    rw [lk] at lk'
    cases lk'
    exact F'
end K49

namespace K49
open PySem PySem.Spec PyProof.Rows L2
theorem run (w : World) : HandSHeadRun.RunEq R qv hk ob 20000 names w := PySem.W.byRow2 "special-get-raises" run_f run_t w
end K49
open PySem PySem.W PySem.Calls PyProof.Rows
theorem PySem.Challenge.cw_toldenough_k49_whole_labelings_counted_holds : PySem.Challenge.rw_toldenough_k49_whole_labelings_counted.Holds := by
  w_on; o_law
  refine HandSHeadRun.head_any (r := K49.R) (q := K49.qv) (H := K49.hk) (ob := K49.ob) (M := 20000) (loose := K49.names) (d := HandSHeadRun.topDef K49.R.prog 135) (kwd := []) K49.ob_eq
    (by kernel_rfl) (fun s => by kernel_rfl) K49.run (by kernel_rfl) (by kernel_rfl) (by kernel_rfl) (by rfl) (by first | assumption | decide +kernel) (by decide +kernel) ⟨rfl, rfl, rfl, rfl, rfl, by decide +kernel⟩ ?hw ?hc
  case hw => w_witness2
  case hc =>
    refine LamX2.walk_ofTE (l := PySem.Challenge.rw_toldenough_k49_whole_labelings_counted) (n := 63) (k := 13) (x := "_law_script") rfl (by decide) (by kernel_rfl) ⟨rfl, by decide, by decide⟩ ?F
    intro w mg fa h Y G hmg0
    obtain ⟨K, KX, nP, c, e1, e2, t⟩ := Y
    have hmg : mg ("law" : PySem.Str) = some (.ref fa) := by
      have e : (HandSHeadRun.topDef K49.R.prog 135).name = ("law" : PySem.Str) := by kernel_rfl
      rw [← e]
      exact hmg0
    exact K49.law_at KX nP G hmg c e1 e2 t
