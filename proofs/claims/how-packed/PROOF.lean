import PyProof.Rows.All
import Wide.All
import OpenK.AllK
import Wide.FinOn
import HandS.ForMost
import PySem.Challenge.RW_annals_k29_how_packed
import KE.KStateDown
import Lean
import HandS.Defaults
import HandS.Exc
import HandS.TryOnly
import HandS.ExcOwn
import HandS.Head0
import HandS.Head1
import HandS.Head2
import HandS.HeadEnd
import HandS.HeadHook1
import HandS.HeadHook2
import HandS.IsInst
import HandS.Walk
import HandS.WordsExc
import HandS.More
import HandS.Conv
import HandS.Style
import HandS.SetKeys
import HandS.TupAny
import HandS.Deep
import KE.KDictKeyed
set_option Elab.async false
set_option linter.all false
set_option maxRecDepth 100000
set_option maxHeartbeats 4000000
namespace An
open PySem L2
def top (i : Nat) : Stmt := PySem.Challenge.pw_annals_k29_how_packed.main.body.getD i (.Pass ⟨0, 0, 0, 0⟩)
abbrev s_is_line : Stmt := top 10
abbrev s_is_lines : Stmt := top 11
abbrev s_is_label : Stmt := top 12
abbrev s_is_rows : Stmt := top 13
abbrev s_is_parents : Stmt := top 14
abbrev s_need_thing : Stmt := top 15
abbrev s_letter_of : Stmt := top 16
abbrev s_names_in : Stmt := top 17
abbrev s_parts_of : Stmt := top 18
abbrev s_spelled : Stmt := top 19
abbrev s_digest : Stmt := top 20
abbrev s_common_table : Stmt := top 22
abbrev s_kept_pairs : Stmt := top 23
abbrev s_spans_of : Stmt := top 24
abbrev s_patched : Stmt := top 25
abbrev s_cost_of : Stmt := top 26
abbrev s_reached : Stmt := top 28
abbrev s_P_init : Stmt := inClass (top 31) 0
abbrev s_P_keep_leaf : Stmt := inClass (top 31) 1
abbrev s_P_has : Stmt := inClass (top 31) 2
abbrev s_P_need_name : Stmt := inClass (top 31) 3
abbrev s_P_thing : Stmt := inClass (top 31) 4
abbrev s_P_names : Stmt := inClass (top 31) 5
abbrev s_P_steps : Stmt := inClass (top 31) 6
abbrev s_P_weight : Stmt := inClass (top 31) 7
abbrev s_S_init : Stmt := inClass (top 33) 0
abbrev s_S_note_down : Stmt := inClass (top 33) 1
abbrev s_S_has : Stmt := inClass (top 33) 2
abbrev s_S_thing : Stmt := inClass (top 33) 3
abbrev s_S_names : Stmt := inClass (top 33) 4
abbrev s_S_need_names : Stmt := inClass (top 33) 5
abbrev s_S_put : Stmt := inClass (top 33) 6
abbrev s_is_path : Stmt := top 36
abbrev s_is_free : Stmt := top 37
abbrev s_need_files : Stmt := top 38
abbrev s_put_rows : Stmt := top 40
abbrev s_grown : Stmt := top 41
abbrev s_keep_files : Stmt := top 42
abbrev s_cell_at : Stmt := top 44
abbrev s_line_by : Stmt := top 45
abbrev s_lines_near : Stmt := top 46
abbrev s_leaf_by : Stmt := top 47
abbrev s_filled : Stmt := top 48
abbrev s_chain : Stmt := top 49
abbrev s_closed : Stmt := top 50
abbrev s_plan : Stmt := top 51
abbrev s_missed : Stmt := top 52
abbrev s_refused : Stmt := top 53
abbrev s_whole : Stmt := top 54
abbrev s_like : Stmt := top 55
abbrev s_names_like : Stmt := top 56
abbrev s_law : Stmt := top 57
end An

namespace An
open PySem PySem.Spec PyProof.Rows L2
def d_is_line : He.DefD := ⟨("is_line", none), "is_line", "is_line", defArgs s_is_line, defBody s_is_line, defScope s_is_line, [], []⟩
def d_is_lines : He.DefD := ⟨("is_lines", none), "is_lines", "is_lines", defArgs s_is_lines, defBody s_is_lines, defScope s_is_lines, [], []⟩
def d_is_label : He.DefD := ⟨("is_label", none), "is_label", "is_label", defArgs s_is_label, defBody s_is_label, defScope s_is_label, [], []⟩
def d_is_rows : He.DefD := ⟨("is_rows", none), "is_rows", "is_rows", defArgs s_is_rows, defBody s_is_rows, defScope s_is_rows, [], []⟩
def d_is_parents : He.DefD := ⟨("is_parents", none), "is_parents", "is_parents", defArgs s_is_parents, defBody s_is_parents, defScope s_is_parents, [], []⟩
def d_need_thing : He.DefD := ⟨("need_thing", none), "need_thing", "need_thing", defArgs s_need_thing, defBody s_need_thing, defScope s_need_thing, [], []⟩
def d_letter_of : He.DefD := ⟨("letter_of", none), "letter_of", "letter_of", defArgs s_letter_of, defBody s_letter_of, defScope s_letter_of, [], []⟩
def d_names_in : He.DefD := ⟨("names_in", none), "names_in", "names_in", defArgs s_names_in, defBody s_names_in, defScope s_names_in, [], []⟩
def d_parts_of : He.DefD := ⟨("parts_of", none), "parts_of", "parts_of", defArgs s_parts_of, defBody s_parts_of, defScope s_parts_of, [], []⟩
def d_spelled : He.DefD := ⟨("spelled", none), "spelled", "spelled", defArgs s_spelled, defBody s_spelled, defScope s_spelled, [], []⟩
def d_digest : He.DefD := ⟨("digest", none), "digest", "digest", defArgs s_digest, defBody s_digest, defScope s_digest, [], []⟩
def d_common_table : He.DefD := ⟨("common_table", none), "common_table", "common_table", defArgs s_common_table, defBody s_common_table, defScope s_common_table, [], []⟩
def d_kept_pairs : He.DefD := ⟨("kept_pairs", none), "kept_pairs", "kept_pairs", defArgs s_kept_pairs, defBody s_kept_pairs, defScope s_kept_pairs, [], []⟩
def d_spans_of : He.DefD := ⟨("spans_of", none), "spans_of", "spans_of", defArgs s_spans_of, defBody s_spans_of, defScope s_spans_of, [], []⟩
def d_patched : He.DefD := ⟨("patched", none), "patched", "patched", defArgs s_patched, defBody s_patched, defScope s_patched, [], []⟩
def d_cost_of : He.DefD := ⟨("cost_of", none), "cost_of", "cost_of", defArgs s_cost_of, defBody s_cost_of, defScope s_cost_of, [], []⟩
def d_reached : He.DefD := ⟨("reached", none), "reached", "reached", defArgs s_reached, defBody s_reached, defScope s_reached, [], []⟩
def d_P_init : He.DefD := ⟨("Pack", some "__init__"), "__init__", "Pack.__init__", defArgs s_P_init, defBody s_P_init, defScope s_P_init, [], []⟩
def d_P_keep_leaf : He.DefD := ⟨("Pack", some "keep_leaf"), "keep_leaf", "Pack.keep_leaf", defArgs s_P_keep_leaf, defBody s_P_keep_leaf, defScope s_P_keep_leaf, [], []⟩
def d_P_has : He.DefD := ⟨("Pack", some "has"), "has", "Pack.has", defArgs s_P_has, defBody s_P_has, defScope s_P_has, [], []⟩
def d_P_need_name : He.DefD := ⟨("Pack", some "need_name"), "need_name", "Pack.need_name", defArgs s_P_need_name, defBody s_P_need_name, defScope s_P_need_name, [], []⟩
def d_P_thing : He.DefD := ⟨("Pack", some "thing"), "thing", "Pack.thing", defArgs s_P_thing, defBody s_P_thing, defScope s_P_thing, [], []⟩
def d_P_names : He.DefD := ⟨("Pack", some "names"), "names", "Pack.names", defArgs s_P_names, defBody s_P_names, defScope s_P_names, [], []⟩
def d_P_steps : He.DefD := ⟨("Pack", some "steps"), "steps", "Pack.steps", defArgs s_P_steps, defBody s_P_steps, defScope s_P_steps, [], []⟩
def d_P_weight : He.DefD := ⟨("Pack", some "weight"), "weight", "Pack.weight", defArgs s_P_weight, defBody s_P_weight, defScope s_P_weight, [], []⟩
def d_S_init : He.DefD := ⟨("Shelf", some "__init__"), "__init__", "Shelf.__init__", defArgs s_S_init, defBody s_S_init, defScope s_S_init, [], []⟩
def d_S_note_down : He.DefD := ⟨("Shelf", some "note_down"), "note_down", "Shelf.note_down", defArgs s_S_note_down, defBody s_S_note_down, defScope s_S_note_down, [], []⟩
def d_S_has : He.DefD := ⟨("Shelf", some "has"), "has", "Shelf.has", defArgs s_S_has, defBody s_S_has, defScope s_S_has, [], []⟩
def d_S_thing : He.DefD := ⟨("Shelf", some "thing"), "thing", "Shelf.thing", defArgs s_S_thing, defBody s_S_thing, defScope s_S_thing, [], []⟩
def d_S_names : He.DefD := ⟨("Shelf", some "names"), "names", "Shelf.names", defArgs s_S_names, defBody s_S_names, defScope s_S_names, [], []⟩
def d_S_need_names : He.DefD := ⟨("Shelf", some "need_names"), "need_names", "Shelf.need_names", defArgs s_S_need_names, defBody s_S_need_names, defScope s_S_need_names, [], []⟩
def d_S_put : He.DefD := ⟨("Shelf", some "put"), "put", "Shelf.put", defArgs s_S_put, defBody s_S_put, defScope s_S_put, [], []⟩
def d_is_path : He.DefD := ⟨("is_path", none), "is_path", "is_path", defArgs s_is_path, defBody s_is_path, defScope s_is_path, [], []⟩
def d_is_free : He.DefD := ⟨("is_free", none), "is_free", "is_free", defArgs s_is_free, defBody s_is_free, defScope s_is_free, [], []⟩
def d_need_files : He.DefD := ⟨("need_files", none), "need_files", "need_files", defArgs s_need_files, defBody s_need_files, defScope s_need_files, [], []⟩
def d_put_rows : He.DefD := ⟨("put_rows", none), "put_rows", "put_rows", defArgs s_put_rows, defBody s_put_rows, defScope s_put_rows, [], []⟩
def d_grown : He.DefD := ⟨("grown", none), "grown", "grown", defArgs s_grown, defBody s_grown, defScope s_grown, [], []⟩
def d_keep_files : He.DefD := ⟨("keep_files", none), "keep_files", "keep_files", defArgs s_keep_files, defBody s_keep_files, defScope s_keep_files, [], []⟩
def d_cell_at : He.DefD := ⟨("_law_cell_at", none), "_law_cell_at", "_law_cell_at", defArgs s_cell_at, defBody s_cell_at, defScope s_cell_at, [], []⟩
def d_line_by : He.DefD := ⟨("_law_line_by", none), "_law_line_by", "_law_line_by", defArgs s_line_by, defBody s_line_by, defScope s_line_by, [], []⟩
def d_lines_near : He.DefD := ⟨("_law_lines_near", none), "_law_lines_near", "_law_lines_near", defArgs s_lines_near, defBody s_lines_near, defScope s_lines_near, [], []⟩
def d_leaf_by : He.DefD := ⟨("_law_leaf_by", none), "_law_leaf_by", "_law_leaf_by", defArgs s_leaf_by, defBody s_leaf_by, defScope s_leaf_by, [], []⟩
def d_filled : He.DefD := ⟨("_law_filled", none), "_law_filled", "_law_filled", defArgs s_filled, defBody s_filled, defScope s_filled, [], []⟩
def d_chain : He.DefD := ⟨("_law_chain", none), "_law_chain", "_law_chain", defArgs s_chain, defBody s_chain, defScope s_chain, [], []⟩
def d_closed : He.DefD := ⟨("_law_closed", none), "_law_closed", "_law_closed", defArgs s_closed, defBody s_closed, defScope s_closed, [], []⟩
def d_plan : He.DefD := ⟨("_law_plan", none), "_law_plan", "_law_plan", defArgs s_plan, defBody s_plan, defScope s_plan, [], []⟩
def d_missed : He.DefD := ⟨("_law_missed", none), "_law_missed", "_law_missed", defArgs s_missed, defBody s_missed, defScope s_missed, [], []⟩
def d_refused : He.DefD := ⟨("_law_refused", none), "_law_refused", "_law_refused", defArgs s_refused, defBody s_refused, defScope s_refused, [], []⟩
def d_whole : He.DefD := ⟨("_law_whole", none), "_law_whole", "_law_whole", defArgs s_whole, defBody s_whole, defScope s_whole, [], []⟩
def d_like : He.DefD := ⟨("_law_like", none), "_law_like", "_law_like", defArgs s_like, defBody s_like, defScope s_like, [], []⟩
def d_names_like : He.DefD := ⟨("_law_names_like", none), "_law_names_like", "_law_names_like", defArgs s_names_like, defBody s_names_like, defScope s_names_like, [], []⟩
def d_law : He.DefD := ⟨("law", none), "law", "law", defArgs s_law, defBody s_law, defScope s_law, [], []⟩
def fn0 : List He.DefD := [d_is_line, d_is_lines, d_is_label, d_is_rows, d_is_parents, d_need_thing, d_letter_of, d_names_in, d_parts_of, d_spelled, d_digest, d_common_table, d_kept_pairs, d_spans_of, d_patched, d_cost_of, d_reached, d_P_init, d_P_keep_leaf, d_P_has]
def fn1 : List He.DefD := [d_P_need_name, d_P_thing, d_P_names, d_P_steps, d_P_weight, d_S_init, d_S_note_down, d_S_has, d_S_thing, d_S_names, d_S_need_names, d_S_put, d_is_path, d_is_free, d_need_files, d_put_rows, d_grown, d_keep_files, d_cell_at, d_line_by]
def fn2 : List He.DefD := [d_lines_near, d_leaf_by, d_filled, d_chain, d_closed, d_plan, d_missed, d_refused, d_whole, d_like, d_names_like, d_law]
def fn : List He.DefD := fn0 ++ fn1 ++ fn2
def fa0 : List He.Fa := [.glo "is_line", .glo "is_lines", .glo "is_label", .glo "is_rows", .glo "is_parents", .glo "need_thing", .glo "letter_of", .glo "names_in", .glo "parts_of", .glo "spelled", .glo "digest", .glo "common_table", .glo "kept_pairs", .glo "spans_of", .glo "patched", .glo "cost_of", .glo "reached", .glo "is_path", .glo "is_free", .glo "need_files", .glo "put_rows", .glo "grown", .glo "keep_files", .glo "_law_cell_at", .glo "_law_line_by"]
def fa1 : List He.Fa := [.glo "_law_lines_near", .glo "_law_leaf_by", .glo "_law_filled", .glo "_law_chain", .glo "_law_closed", .glo "_law_plan", .glo "_law_missed", .glo "_law_refused", .glo "_law_whole", .glo "_law_like", .glo "_law_names_like", .glo "law", .glo "Pack", .glo "Shelf", .glo "NoName", .free "isinstance", .free "len", .free "all", .free "any", .free "ord", .free "str", .free "tuple", .free "list", .free "dict", .free "int"]
def fa2 : List He.Fa := [.free "bool", .free "max", .free "sum", .free "range", .free "sorted", .free "enumerate", .free "reversed", .int "MOST_SIGNS" 20, .int "MOST_LETTERS" 8, .int "PERCENT" 37, .int "MOST_STEPS" 4, .int "MOST_LABELS" 4, .cls "Pack", .mkr "Pack", .noat "Pack" "order", .noat "Pack" "wholes", .noat "Pack" "spans", .cls "Shelf", .mkr "Shelf", .noat "Shelf" "base", .noat "Shelf" "own", .noat "Shelf" "told", .noat "Shelf" "greatest", .meth "Pack" "__init__", .meth "Pack" "keep_leaf"]
def fa3 : List He.Fa := [.meth "Pack" "has", .meth "Pack" "need_name", .meth "Pack" "thing", .meth "Pack" "names", .meth "Pack" "steps", .meth "Pack" "weight", .meth "Shelf" "__init__", .meth "Shelf" "note_down", .meth "Shelf" "has", .meth "Shelf" "thing", .meth "Shelf" "names", .meth "Shelf" "need_names", .meth "Shelf" "put", .exc "NoName", .exm "NoName" "NoName" true]
def fa : List He.Fa := fa0 ++ fa1 ++ fa2 ++ fa3
def lo0 : List Str := ["AnnalsError", "NoThing", "NoName", "BadFiles", "NoFit", "MOST_SIGNS", "MOST_LETTERS", "PERCENT", "is_line", "is_lines", "is_label", "is_rows", "is_parents", "need_thing", "letter_of", "names_in", "parts_of", "spelled", "digest", "common_table"]
def lo1 : List Str := ["kept_pairs", "spans_of", "patched", "cost_of", "reached", "MOST_STEPS", "Pack", "Shelf", "MOST_LABELS", "is_path", "is_free", "need_files", "put_rows", "grown", "keep_files", "_law_cell_at", "_law_line_by", "_law_lines_near", "_law_leaf_by", "_law_filled"]
def lo2 : List Str := ["_law_chain", "_law_closed", "_law_plan", "_law_missed", "_law_refused", "_law_whole", "_law_like", "_law_names_like"]
def lo : List Str := lo0 ++ lo1 ++ lo2
abbrev R : PySem.W.OpenRow := PySem.W.OpenLaw.row PySem.Challenge.rw_annals_k29_how_packed
abbrev hk : PySem.W.Hook := He.hookD 5 fa fn
def ob (s : PySem.W.SharedT) : He.AlD := He.obsDG 5 fa fn (HandSHeadRun.getT s)
theorem ob_eq (s : PySem.W.SharedT) : ob s = hk.obs s.abs := He.obsDG_eq (HandSHeadRun.getT_eq s)
theorem run (w : World) : HandSHeadRun.RunEq R (PySem.W.view R.prog [57]) hk ob 4000 lo w := by
  intro os
  kernel_rfl
end An

namespace An
open PySem PySem.Spec PyProof.Rows L2
/-- what the top has written -/
structure Tx (K : PySem.W.Frag) (mg : Str → Option Value) : Prop where
  g_is_line : mg "is_line" = some (.ref (He.ga K "is_line"))
  g_is_lines : mg "is_lines" = some (.ref (He.ga K "is_lines"))
  g_is_label : mg "is_label" = some (.ref (He.ga K "is_label"))
  g_is_rows : mg "is_rows" = some (.ref (He.ga K "is_rows"))
  g_is_parents : mg "is_parents" = some (.ref (He.ga K "is_parents"))
  g_need_thing : mg "need_thing" = some (.ref (He.ga K "need_thing"))
  g_letter_of : mg "letter_of" = some (.ref (He.ga K "letter_of"))
  g_names_in : mg "names_in" = some (.ref (He.ga K "names_in"))
  g_parts_of : mg "parts_of" = some (.ref (He.ga K "parts_of"))
  g_spelled : mg "spelled" = some (.ref (He.ga K "spelled"))
  g_digest : mg "digest" = some (.ref (He.ga K "digest"))
  g_common_table : mg "common_table" = some (.ref (He.ga K "common_table"))
  g_kept_pairs : mg "kept_pairs" = some (.ref (He.ga K "kept_pairs"))
  g_spans_of : mg "spans_of" = some (.ref (He.ga K "spans_of"))
  g_patched : mg "patched" = some (.ref (He.ga K "patched"))
  g_cost_of : mg "cost_of" = some (.ref (He.ga K "cost_of"))
  g_reached : mg "reached" = some (.ref (He.ga K "reached"))
  g_is_path : mg "is_path" = some (.ref (He.ga K "is_path"))
  g_is_free : mg "is_free" = some (.ref (He.ga K "is_free"))
  g_need_files : mg "need_files" = some (.ref (He.ga K "need_files"))
  g_put_rows : mg "put_rows" = some (.ref (He.ga K "put_rows"))
  g_grown : mg "grown" = some (.ref (He.ga K "grown"))
  g_keep_files : mg "keep_files" = some (.ref (He.ga K "keep_files"))
  g_cell_at : mg "_law_cell_at" = some (.ref (He.ga K "_law_cell_at"))
  g_line_by : mg "_law_line_by" = some (.ref (He.ga K "_law_line_by"))
  g_lines_near : mg "_law_lines_near" = some (.ref (He.ga K "_law_lines_near"))
  g_leaf_by : mg "_law_leaf_by" = some (.ref (He.ga K "_law_leaf_by"))
  g_filled : mg "_law_filled" = some (.ref (He.ga K "_law_filled"))
  g_chain : mg "_law_chain" = some (.ref (He.ga K "_law_chain"))
  g_closed : mg "_law_closed" = some (.ref (He.ga K "_law_closed"))
  g_plan : mg "_law_plan" = some (.ref (He.ga K "_law_plan"))
  g_missed : mg "_law_missed" = some (.ref (He.ga K "_law_missed"))
  g_refused : mg "_law_refused" = some (.ref (He.ga K "_law_refused"))
  g_whole : mg "_law_whole" = some (.ref (He.ga K "_law_whole"))
  g_like : mg "_law_like" = some (.ref (He.ga K "_law_like"))
  g_names_like : mg "_law_names_like" = some (.ref (He.ga K "_law_names_like"))
  g_law : mg "law" = some (.ref (He.ga K "law"))
  g_Pack : mg "Pack" = some (.ref (He.ga K "Pack"))
  g_Shelf : mg "Shelf" = some (.ref (He.ga K "Shelf"))
  g_NoName : mg "NoName" = some (.ref (He.ga K "NoName"))
  n_isinstance : mg "isinstance" = none
  n_len : mg "len" = none
  n_all : mg "all" = none
  n_any : mg "any" = none
  n_ord : mg "ord" = none
  n_str : mg "str" = none
  n_tuple : mg "tuple" = none
  n_list : mg "list" = none
  n_dict : mg "dict" = none
  n_int : mg "int" = none
  n_bool : mg "bool" = none
  n_max : mg "max" = none
  n_sum : mg "sum" = none
  n_range : mg "range" = none
  n_sorted : mg "sorted" = none
  n_enumerate : mg "enumerate" = none
  n_reversed : mg "reversed" = none
  i_MOST_SIGNS : ∃ u, mg "MOST_SIGNS" = some u ∧ RelV (.int 20) u
  i_MOST_LETTERS : ∃ u, mg "MOST_LETTERS" = some u ∧ RelV (.int 8) u
  i_PERCENT : ∃ u, mg "PERCENT" = some u ∧ RelV (.int 37) u
  i_MOST_STEPS : ∃ u, mg "MOST_STEPS" = some u ∧ RelV (.int 4) u
  i_MOST_LABELS : ∃ u, mg "MOST_LABELS" = some u ∧ RelV (.int 4) u
  clP : Cls K (He.ga K "Pack")
  mkP : Mk K (He.ga K "Pack") (He.ma K (He.ga K "Pack") "__init__")
  aP_order : NoAttr K (He.ga K "Pack") "order"
  aP_wholes : NoAttr K (He.ga K "Pack") "wholes"
  aP_spans : NoAttr K (He.ga K "Pack") "spans"
  clS : Cls K (He.ga K "Shelf")
  mkS : Mk K (He.ga K "Shelf") (He.ma K (He.ga K "Shelf") "__init__")
  aS_base : NoAttr K (He.ga K "Shelf") "base"
  aS_own : NoAttr K (He.ga K "Shelf") "own"
  aS_told : NoAttr K (He.ga K "Shelf") "told"
  aS_greatest : NoAttr K (He.ga K "Shelf") "greatest"
  mP_init : Meth K (He.ga K "Pack") "__init__" (He.ma K (He.ga K "Pack") "__init__")
  mP_keep_leaf : Meth K (He.ga K "Pack") "keep_leaf" (He.ma K (He.ga K "Pack") "keep_leaf")
  mP_has : Meth K (He.ga K "Pack") "has" (He.ma K (He.ga K "Pack") "has")
  mP_need_name : Meth K (He.ga K "Pack") "need_name" (He.ma K (He.ga K "Pack") "need_name")
  mP_thing : Meth K (He.ga K "Pack") "thing" (He.ma K (He.ga K "Pack") "thing")
  mP_names : Meth K (He.ga K "Pack") "names" (He.ma K (He.ga K "Pack") "names")
  mP_steps : Meth K (He.ga K "Pack") "steps" (He.ma K (He.ga K "Pack") "steps")
  mP_weight : Meth K (He.ga K "Pack") "weight" (He.ma K (He.ga K "Pack") "weight")
  mS_init : Meth K (He.ga K "Shelf") "__init__" (He.ma K (He.ga K "Shelf") "__init__")
  mS_note_down : Meth K (He.ga K "Shelf") "note_down" (He.ma K (He.ga K "Shelf") "note_down")
  mS_has : Meth K (He.ga K "Shelf") "has" (He.ma K (He.ga K "Shelf") "has")
  mS_thing : Meth K (He.ga K "Shelf") "thing" (He.ma K (He.ga K "Shelf") "thing")
  mS_names : Meth K (He.ga K "Shelf") "names" (He.ma K (He.ga K "Shelf") "names")
  mS_need_names : Meth K (He.ga K "Shelf") "need_names" (He.ma K (He.ga K "Shelf") "need_names")
  mS_put : Meth K (He.ga K "Shelf") "put" (He.ma K (He.ga K "Shelf") "put")
  xN : PySem.W.excIn K (He.ga K "NoName") He.veBase "ValueError.__new__" = true ∧ PySem.W.keepIn K (.ref (He.ga K "NoName")) = true ∧ PySem.W.subIn K (.ref (He.ga K "NoName")) (.type "BaseException") = some true ∧ PySem.W.typeIn K (.ref (He.ga K "NoName")) = some (.type "type")
  eN : PySem.W.exmOne K (.ref (He.ga K "NoName")) (.ref (He.ga K "NoName")) = some true
  d_is_line : ∃ fd, FunD K "is_line" "is_line" (defArgs s_is_line) (defBody s_is_line) (defScope s_is_line) [] [] (He.ga K "is_line") fd
  d_is_lines : ∃ fd, FunD K "is_lines" "is_lines" (defArgs s_is_lines) (defBody s_is_lines) (defScope s_is_lines) [] [] (He.ga K "is_lines") fd
  d_is_label : ∃ fd, FunD K "is_label" "is_label" (defArgs s_is_label) (defBody s_is_label) (defScope s_is_label) [] [] (He.ga K "is_label") fd
  d_is_rows : ∃ fd, FunD K "is_rows" "is_rows" (defArgs s_is_rows) (defBody s_is_rows) (defScope s_is_rows) [] [] (He.ga K "is_rows") fd
  d_is_parents : ∃ fd, FunD K "is_parents" "is_parents" (defArgs s_is_parents) (defBody s_is_parents) (defScope s_is_parents) [] [] (He.ga K "is_parents") fd
  d_need_thing : ∃ fd, FunD K "need_thing" "need_thing" (defArgs s_need_thing) (defBody s_need_thing) (defScope s_need_thing) [] [] (He.ga K "need_thing") fd
  d_letter_of : ∃ fd, FunD K "letter_of" "letter_of" (defArgs s_letter_of) (defBody s_letter_of) (defScope s_letter_of) [] [] (He.ga K "letter_of") fd
  d_names_in : ∃ fd, FunD K "names_in" "names_in" (defArgs s_names_in) (defBody s_names_in) (defScope s_names_in) [] [] (He.ga K "names_in") fd
  d_parts_of : ∃ fd, FunD K "parts_of" "parts_of" (defArgs s_parts_of) (defBody s_parts_of) (defScope s_parts_of) [] [] (He.ga K "parts_of") fd
  d_spelled : ∃ fd, FunD K "spelled" "spelled" (defArgs s_spelled) (defBody s_spelled) (defScope s_spelled) [] [] (He.ga K "spelled") fd
  d_digest : ∃ fd, FunD K "digest" "digest" (defArgs s_digest) (defBody s_digest) (defScope s_digest) [] [] (He.ga K "digest") fd
  d_common_table : ∃ fd, FunD K "common_table" "common_table" (defArgs s_common_table) (defBody s_common_table) (defScope s_common_table) [] [] (He.ga K "common_table") fd
  d_kept_pairs : ∃ fd, FunD K "kept_pairs" "kept_pairs" (defArgs s_kept_pairs) (defBody s_kept_pairs) (defScope s_kept_pairs) [] [] (He.ga K "kept_pairs") fd
  d_spans_of : ∃ fd, FunD K "spans_of" "spans_of" (defArgs s_spans_of) (defBody s_spans_of) (defScope s_spans_of) [] [] (He.ga K "spans_of") fd
  d_patched : ∃ fd, FunD K "patched" "patched" (defArgs s_patched) (defBody s_patched) (defScope s_patched) [] [] (He.ga K "patched") fd
  d_cost_of : ∃ fd, FunD K "cost_of" "cost_of" (defArgs s_cost_of) (defBody s_cost_of) (defScope s_cost_of) [] [] (He.ga K "cost_of") fd
  d_reached : ∃ fd, FunD K "reached" "reached" (defArgs s_reached) (defBody s_reached) (defScope s_reached) [] [] (He.ga K "reached") fd
  d_P_init : ∃ fd, FunD K "__init__" "Pack.__init__" (defArgs s_P_init) (defBody s_P_init) (defScope s_P_init) [] [] (He.ma K (He.ga K "Pack") "__init__") fd
  d_P_keep_leaf : ∃ fd, FunD K "keep_leaf" "Pack.keep_leaf" (defArgs s_P_keep_leaf) (defBody s_P_keep_leaf) (defScope s_P_keep_leaf) [] [] (He.ma K (He.ga K "Pack") "keep_leaf") fd
  d_P_has : ∃ fd, FunD K "has" "Pack.has" (defArgs s_P_has) (defBody s_P_has) (defScope s_P_has) [] [] (He.ma K (He.ga K "Pack") "has") fd
  d_P_need_name : ∃ fd, FunD K "need_name" "Pack.need_name" (defArgs s_P_need_name) (defBody s_P_need_name) (defScope s_P_need_name) [] [] (He.ma K (He.ga K "Pack") "need_name") fd
  d_P_thing : ∃ fd, FunD K "thing" "Pack.thing" (defArgs s_P_thing) (defBody s_P_thing) (defScope s_P_thing) [] [] (He.ma K (He.ga K "Pack") "thing") fd
  d_P_names : ∃ fd, FunD K "names" "Pack.names" (defArgs s_P_names) (defBody s_P_names) (defScope s_P_names) [] [] (He.ma K (He.ga K "Pack") "names") fd
  d_P_steps : ∃ fd, FunD K "steps" "Pack.steps" (defArgs s_P_steps) (defBody s_P_steps) (defScope s_P_steps) [] [] (He.ma K (He.ga K "Pack") "steps") fd
  d_P_weight : ∃ fd, FunD K "weight" "Pack.weight" (defArgs s_P_weight) (defBody s_P_weight) (defScope s_P_weight) [] [] (He.ma K (He.ga K "Pack") "weight") fd
  d_S_init : ∃ fd, FunD K "__init__" "Shelf.__init__" (defArgs s_S_init) (defBody s_S_init) (defScope s_S_init) [] [] (He.ma K (He.ga K "Shelf") "__init__") fd
  d_S_note_down : ∃ fd, FunD K "note_down" "Shelf.note_down" (defArgs s_S_note_down) (defBody s_S_note_down) (defScope s_S_note_down) [] [] (He.ma K (He.ga K "Shelf") "note_down") fd
  d_S_has : ∃ fd, FunD K "has" "Shelf.has" (defArgs s_S_has) (defBody s_S_has) (defScope s_S_has) [] [] (He.ma K (He.ga K "Shelf") "has") fd
  d_S_thing : ∃ fd, FunD K "thing" "Shelf.thing" (defArgs s_S_thing) (defBody s_S_thing) (defScope s_S_thing) [] [] (He.ma K (He.ga K "Shelf") "thing") fd
  d_S_names : ∃ fd, FunD K "names" "Shelf.names" (defArgs s_S_names) (defBody s_S_names) (defScope s_S_names) [] [] (He.ma K (He.ga K "Shelf") "names") fd
  d_S_need_names : ∃ fd, FunD K "need_names" "Shelf.need_names" (defArgs s_S_need_names) (defBody s_S_need_names) (defScope s_S_need_names) [] [] (He.ma K (He.ga K "Shelf") "need_names") fd
  d_S_put : ∃ fd, FunD K "put" "Shelf.put" (defArgs s_S_put) (defBody s_S_put) (defScope s_S_put) [] [] (He.ma K (He.ga K "Shelf") "put") fd
  d_is_path : ∃ fd, FunD K "is_path" "is_path" (defArgs s_is_path) (defBody s_is_path) (defScope s_is_path) [] [] (He.ga K "is_path") fd
  d_is_free : ∃ fd, FunD K "is_free" "is_free" (defArgs s_is_free) (defBody s_is_free) (defScope s_is_free) [] [] (He.ga K "is_free") fd
  d_need_files : ∃ fd, FunD K "need_files" "need_files" (defArgs s_need_files) (defBody s_need_files) (defScope s_need_files) [] [] (He.ga K "need_files") fd
  d_put_rows : ∃ fd, FunD K "put_rows" "put_rows" (defArgs s_put_rows) (defBody s_put_rows) (defScope s_put_rows) [] [] (He.ga K "put_rows") fd
  d_grown : ∃ fd, FunD K "grown" "grown" (defArgs s_grown) (defBody s_grown) (defScope s_grown) [] [] (He.ga K "grown") fd
  d_keep_files : ∃ fd, FunD K "keep_files" "keep_files" (defArgs s_keep_files) (defBody s_keep_files) (defScope s_keep_files) [] [] (He.ga K "keep_files") fd
  d_cell_at : ∃ fd, FunD K "_law_cell_at" "_law_cell_at" (defArgs s_cell_at) (defBody s_cell_at) (defScope s_cell_at) [] [] (He.ga K "_law_cell_at") fd
  d_line_by : ∃ fd, FunD K "_law_line_by" "_law_line_by" (defArgs s_line_by) (defBody s_line_by) (defScope s_line_by) [] [] (He.ga K "_law_line_by") fd
  d_lines_near : ∃ fd, FunD K "_law_lines_near" "_law_lines_near" (defArgs s_lines_near) (defBody s_lines_near) (defScope s_lines_near) [] [] (He.ga K "_law_lines_near") fd
  d_leaf_by : ∃ fd, FunD K "_law_leaf_by" "_law_leaf_by" (defArgs s_leaf_by) (defBody s_leaf_by) (defScope s_leaf_by) [] [] (He.ga K "_law_leaf_by") fd
  d_filled : ∃ fd, FunD K "_law_filled" "_law_filled" (defArgs s_filled) (defBody s_filled) (defScope s_filled) [] [] (He.ga K "_law_filled") fd
  d_chain : ∃ fd, FunD K "_law_chain" "_law_chain" (defArgs s_chain) (defBody s_chain) (defScope s_chain) [] [] (He.ga K "_law_chain") fd
  d_closed : ∃ fd, FunD K "_law_closed" "_law_closed" (defArgs s_closed) (defBody s_closed) (defScope s_closed) [] [] (He.ga K "_law_closed") fd
  d_plan : ∃ fd, FunD K "_law_plan" "_law_plan" (defArgs s_plan) (defBody s_plan) (defScope s_plan) [] [] (He.ga K "_law_plan") fd
  d_missed : ∃ fd, FunD K "_law_missed" "_law_missed" (defArgs s_missed) (defBody s_missed) (defScope s_missed) [] [] (He.ga K "_law_missed") fd
  d_refused : ∃ fd, FunD K "_law_refused" "_law_refused" (defArgs s_refused) (defBody s_refused) (defScope s_refused) [] [] (He.ga K "_law_refused") fd
  d_whole : ∃ fd, FunD K "_law_whole" "_law_whole" (defArgs s_whole) (defBody s_whole) (defScope s_whole) [] [] (He.ga K "_law_whole") fd
  d_like : ∃ fd, FunD K "_law_like" "_law_like" (defArgs s_like) (defBody s_like) (defScope s_like) [] [] (He.ga K "_law_like") fd
  d_names_like : ∃ fd, FunD K "_law_names_like" "_law_names_like" (defArgs s_names_like) (defBody s_names_like) (defScope s_names_like) [] [] (He.ga K "_law_names_like") fd
  d_law : ∃ fd, FunD K "law" "law" (defArgs s_law) (defBody s_law) (defScope s_law) [] [] (He.ga K "law") fd
end An

namespace An
open PySem PySem.Spec PyProof.Rows L2
theorem tx_of {K : PySem.W.Frag} {h : Heap} {mg : Str → Option Value} (X : K.In h) (G : h.Ns mainGlobals mg) (c : He.SaysD fa fn K) : Tx K mg where
  g_is_line := He.glo_ok X G (c.fact 0 (f := .glo "is_line") rfl)
  g_is_lines := He.glo_ok X G (c.fact 1 (f := .glo "is_lines") rfl)
  g_is_label := He.glo_ok X G (c.fact 2 (f := .glo "is_label") rfl)
  g_is_rows := He.glo_ok X G (c.fact 3 (f := .glo "is_rows") rfl)
  g_is_parents := He.glo_ok X G (c.fact 4 (f := .glo "is_parents") rfl)
  g_need_thing := He.glo_ok X G (c.fact 5 (f := .glo "need_thing") rfl)
  g_letter_of := He.glo_ok X G (c.fact 6 (f := .glo "letter_of") rfl)
  g_names_in := He.glo_ok X G (c.fact 7 (f := .glo "names_in") rfl)
  g_parts_of := He.glo_ok X G (c.fact 8 (f := .glo "parts_of") rfl)
  g_spelled := He.glo_ok X G (c.fact 9 (f := .glo "spelled") rfl)
  g_digest := He.glo_ok X G (c.fact 10 (f := .glo "digest") rfl)
  g_common_table := He.glo_ok X G (c.fact 11 (f := .glo "common_table") rfl)
  g_kept_pairs := He.glo_ok X G (c.fact 12 (f := .glo "kept_pairs") rfl)
  g_spans_of := He.glo_ok X G (c.fact 13 (f := .glo "spans_of") rfl)
  g_patched := He.glo_ok X G (c.fact 14 (f := .glo "patched") rfl)
  g_cost_of := He.glo_ok X G (c.fact 15 (f := .glo "cost_of") rfl)
  g_reached := He.glo_ok X G (c.fact 16 (f := .glo "reached") rfl)
  g_is_path := He.glo_ok X G (c.fact 17 (f := .glo "is_path") rfl)
  g_is_free := He.glo_ok X G (c.fact 18 (f := .glo "is_free") rfl)
  g_need_files := He.glo_ok X G (c.fact 19 (f := .glo "need_files") rfl)
  g_put_rows := He.glo_ok X G (c.fact 20 (f := .glo "put_rows") rfl)
  g_grown := He.glo_ok X G (c.fact 21 (f := .glo "grown") rfl)
  g_keep_files := He.glo_ok X G (c.fact 22 (f := .glo "keep_files") rfl)
  g_cell_at := He.glo_ok X G (c.fact 23 (f := .glo "_law_cell_at") rfl)
  g_line_by := He.glo_ok X G (c.fact 24 (f := .glo "_law_line_by") rfl)
  g_lines_near := He.glo_ok X G (c.fact 25 (f := .glo "_law_lines_near") rfl)
  g_leaf_by := He.glo_ok X G (c.fact 26 (f := .glo "_law_leaf_by") rfl)
  g_filled := He.glo_ok X G (c.fact 27 (f := .glo "_law_filled") rfl)
  g_chain := He.glo_ok X G (c.fact 28 (f := .glo "_law_chain") rfl)
  g_closed := He.glo_ok X G (c.fact 29 (f := .glo "_law_closed") rfl)
  g_plan := He.glo_ok X G (c.fact 30 (f := .glo "_law_plan") rfl)
  g_missed := He.glo_ok X G (c.fact 31 (f := .glo "_law_missed") rfl)
  g_refused := He.glo_ok X G (c.fact 32 (f := .glo "_law_refused") rfl)
  g_whole := He.glo_ok X G (c.fact 33 (f := .glo "_law_whole") rfl)
  g_like := He.glo_ok X G (c.fact 34 (f := .glo "_law_like") rfl)
  g_names_like := He.glo_ok X G (c.fact 35 (f := .glo "_law_names_like") rfl)
  g_law := He.glo_ok X G (c.fact 36 (f := .glo "law") rfl)
  g_Pack := He.glo_ok X G (c.fact 37 (f := .glo "Pack") rfl)
  g_Shelf := He.glo_ok X G (c.fact 38 (f := .glo "Shelf") rfl)
  g_NoName := He.glo_ok X G (c.fact 39 (f := .glo "NoName") rfl)
  n_isinstance := He.free_ok X G (c.fact 40 (f := .free "isinstance") rfl)
  n_len := He.free_ok X G (c.fact 41 (f := .free "len") rfl)
  n_all := He.free_ok X G (c.fact 42 (f := .free "all") rfl)
  n_any := He.free_ok X G (c.fact 43 (f := .free "any") rfl)
  n_ord := He.free_ok X G (c.fact 44 (f := .free "ord") rfl)
  n_str := He.free_ok X G (c.fact 45 (f := .free "str") rfl)
  n_tuple := He.free_ok X G (c.fact 46 (f := .free "tuple") rfl)
  n_list := He.free_ok X G (c.fact 47 (f := .free "list") rfl)
  n_dict := He.free_ok X G (c.fact 48 (f := .free "dict") rfl)
  n_int := He.free_ok X G (c.fact 49 (f := .free "int") rfl)
  n_bool := He.free_ok X G (c.fact 50 (f := .free "bool") rfl)
  n_max := He.free_ok X G (c.fact 51 (f := .free "max") rfl)
  n_sum := He.free_ok X G (c.fact 52 (f := .free "sum") rfl)
  n_range := He.free_ok X G (c.fact 53 (f := .free "range") rfl)
  n_sorted := He.free_ok X G (c.fact 54 (f := .free "sorted") rfl)
  n_enumerate := He.free_ok X G (c.fact 55 (f := .free "enumerate") rfl)
  n_reversed := He.free_ok X G (c.fact 56 (f := .free "reversed") rfl)
  i_MOST_SIGNS := (let ⟨t, e⟩ := He.int_ok X G (c.fact 57 (f := .int "MOST_SIGNS" 20) rfl); ⟨_, e, t, rfl⟩)
  i_MOST_LETTERS := (let ⟨t, e⟩ := He.int_ok X G (c.fact 58 (f := .int "MOST_LETTERS" 8) rfl); ⟨_, e, t, rfl⟩)
  i_PERCENT := (let ⟨t, e⟩ := He.int_ok X G (c.fact 59 (f := .int "PERCENT" 37) rfl); ⟨_, e, t, rfl⟩)
  i_MOST_STEPS := (let ⟨t, e⟩ := He.int_ok X G (c.fact 60 (f := .int "MOST_STEPS" 4) rfl); ⟨_, e, t, rfl⟩)
  i_MOST_LABELS := (let ⟨t, e⟩ := He.int_ok X G (c.fact 61 (f := .int "MOST_LABELS" 4) rfl); ⟨_, e, t, rfl⟩)
  clP := He.cls_ok (c.fact 62 (f := .cls "Pack") rfl)
  mkP := He.mkr_ok (c.fact 63 (f := .mkr "Pack") rfl)
  aP_order := He.noat_ok (c.fact 64 (f := .noat "Pack" "order") rfl)
  aP_wholes := He.noat_ok (c.fact 65 (f := .noat "Pack" "wholes") rfl)
  aP_spans := He.noat_ok (c.fact 66 (f := .noat "Pack" "spans") rfl)
  clS := He.cls_ok (c.fact 67 (f := .cls "Shelf") rfl)
  mkS := He.mkr_ok (c.fact 68 (f := .mkr "Shelf") rfl)
  aS_base := He.noat_ok (c.fact 69 (f := .noat "Shelf" "base") rfl)
  aS_own := He.noat_ok (c.fact 70 (f := .noat "Shelf" "own") rfl)
  aS_told := He.noat_ok (c.fact 71 (f := .noat "Shelf" "told") rfl)
  aS_greatest := He.noat_ok (c.fact 72 (f := .noat "Shelf" "greatest") rfl)
  mP_init := He.meth_ok (c.fact 73 (f := .meth "Pack" "__init__") rfl)
  mP_keep_leaf := He.meth_ok (c.fact 74 (f := .meth "Pack" "keep_leaf") rfl)
  mP_has := He.meth_ok (c.fact 75 (f := .meth "Pack" "has") rfl)
  mP_need_name := He.meth_ok (c.fact 76 (f := .meth "Pack" "need_name") rfl)
  mP_thing := He.meth_ok (c.fact 77 (f := .meth "Pack" "thing") rfl)
  mP_names := He.meth_ok (c.fact 78 (f := .meth "Pack" "names") rfl)
  mP_steps := He.meth_ok (c.fact 79 (f := .meth "Pack" "steps") rfl)
  mP_weight := He.meth_ok (c.fact 80 (f := .meth "Pack" "weight") rfl)
  mS_init := He.meth_ok (c.fact 81 (f := .meth "Shelf" "__init__") rfl)
  mS_note_down := He.meth_ok (c.fact 82 (f := .meth "Shelf" "note_down") rfl)
  mS_has := He.meth_ok (c.fact 83 (f := .meth "Shelf" "has") rfl)
  mS_thing := He.meth_ok (c.fact 84 (f := .meth "Shelf" "thing") rfl)
  mS_names := He.meth_ok (c.fact 85 (f := .meth "Shelf" "names") rfl)
  mS_need_names := He.meth_ok (c.fact 86 (f := .meth "Shelf" "need_names") rfl)
  mS_put := He.meth_ok (c.fact 87 (f := .meth "Shelf" "put") rfl)
  xN := He.exc_ok (c.fact 88 (f := .exc "NoName") rfl)
  eN := He.exm_ok (c.fact 89 (f := .exm "NoName" "NoName" true) rfl)
  d_is_line := c.def_ 0 (d := d_is_line) rfl
  d_is_lines := c.def_ 1 (d := d_is_lines) rfl
  d_is_label := c.def_ 2 (d := d_is_label) rfl
  d_is_rows := c.def_ 3 (d := d_is_rows) rfl
  d_is_parents := c.def_ 4 (d := d_is_parents) rfl
  d_need_thing := c.def_ 5 (d := d_need_thing) rfl
  d_letter_of := c.def_ 6 (d := d_letter_of) rfl
  d_names_in := c.def_ 7 (d := d_names_in) rfl
  d_parts_of := c.def_ 8 (d := d_parts_of) rfl
  d_spelled := c.def_ 9 (d := d_spelled) rfl
  d_digest := c.def_ 10 (d := d_digest) rfl
  d_common_table := c.def_ 11 (d := d_common_table) rfl
  d_kept_pairs := c.def_ 12 (d := d_kept_pairs) rfl
  d_spans_of := c.def_ 13 (d := d_spans_of) rfl
  d_patched := c.def_ 14 (d := d_patched) rfl
  d_cost_of := c.def_ 15 (d := d_cost_of) rfl
  d_reached := c.def_ 16 (d := d_reached) rfl
  d_P_init := c.def_ 17 (d := d_P_init) rfl
  d_P_keep_leaf := c.def_ 18 (d := d_P_keep_leaf) rfl
  d_P_has := c.def_ 19 (d := d_P_has) rfl
  d_P_need_name := c.def_ 20 (d := d_P_need_name) rfl
  d_P_thing := c.def_ 21 (d := d_P_thing) rfl
  d_P_names := c.def_ 22 (d := d_P_names) rfl
  d_P_steps := c.def_ 23 (d := d_P_steps) rfl
  d_P_weight := c.def_ 24 (d := d_P_weight) rfl
  d_S_init := c.def_ 25 (d := d_S_init) rfl
  d_S_note_down := c.def_ 26 (d := d_S_note_down) rfl
  d_S_has := c.def_ 27 (d := d_S_has) rfl
  d_S_thing := c.def_ 28 (d := d_S_thing) rfl
  d_S_names := c.def_ 29 (d := d_S_names) rfl
  d_S_need_names := c.def_ 30 (d := d_S_need_names) rfl
  d_S_put := c.def_ 31 (d := d_S_put) rfl
  d_is_path := c.def_ 32 (d := d_is_path) rfl
  d_is_free := c.def_ 33 (d := d_is_free) rfl
  d_need_files := c.def_ 34 (d := d_need_files) rfl
  d_put_rows := c.def_ 35 (d := d_put_rows) rfl
  d_grown := c.def_ 36 (d := d_grown) rfl
  d_keep_files := c.def_ 37 (d := d_keep_files) rfl
  d_cell_at := c.def_ 38 (d := d_cell_at) rfl
  d_line_by := c.def_ 39 (d := d_line_by) rfl
  d_lines_near := c.def_ 40 (d := d_lines_near) rfl
  d_leaf_by := c.def_ 41 (d := d_leaf_by) rfl
  d_filled := c.def_ 42 (d := d_filled) rfl
  d_chain := c.def_ 43 (d := d_chain) rfl
  d_closed := c.def_ 44 (d := d_closed) rfl
  d_plan := c.def_ 45 (d := d_plan) rfl
  d_missed := c.def_ 46 (d := d_missed) rfl
  d_refused := c.def_ 47 (d := d_refused) rfl
  d_whole := c.def_ 48 (d := d_whole) rfl
  d_like := c.def_ 49 (d := d_like) rfl
  d_names_like := c.def_ 50 (d := d_names_like) rfl
  d_law := c.def_ 51 (d := d_law) rfl
end An

namespace An
open PySem PySem.Spec PyProof.Rows L2
/-! ### things -/
inductive Thing where
  | leaf (ls : List Str)
  | tree (rows : List (Str × Str))
  | note (t : Str) (ps : List Str) (w : Str)
  deriving DecidableEq
def LsAt (H : Hp) (a : Addr) (ls : List Str) : Prop := H a = some (.tup (ls.map V.str))
def RowsAt (H : Hp) : List Addr → List (Str × Str) → Prop := Paired fun a r => H a = some (.tup [.str r.1, .str r.2])
def ThAt (H : Hp) (a : Addr) : Thing → Prop
  | .leaf ls => ∃ q, H a = some (.tup [.str "leaf", .ref q]) ∧ LsAt H q ls
  | .tree rows => ∃ q as, H a = some (.tup [.str "tree", .ref q]) ∧ H q = some (.tup (as.map V.ref)) ∧ RowsAt H as rows
  | .note t ps w => ∃ q, H a = some (.tup [.str "note", .str t, .ref q, .str w]) ∧ LsAt H q ps
/-- the tuples stand -/
def Tups (H H' : Hp) : Prop := ∀ b xs, H b = some (.tup xs) → H' b = some (.tup xs)
theorem Tups.refl (H : Hp) : Tups H H := fun _ _ h => h
theorem Tups.trans {H H1 H2 : Hp} (a : Tups H H1) (b : Tups H1 H2) : Tups H H2 := fun c xs h => b c xs (a c xs h)
theorem tups_of {H H' : Hp} (s : Same H H') : Tups H H' := fun b xs e => s b _ e
theorem RowsAt.mono {H H' : Hp} (s : Tups H H') {as : List Addr} {rows : List (Str × Str)} (h : RowsAt H as rows) : RowsAt H' as rows := Paired.mapP h fun _ _ e => s _ _ e
theorem ThAt.mono {H H' : Hp} (s : Tups H H') {a : Addr} {t : Thing} (h : ThAt H a t) : ThAt H' a t := by
  cases t with
  | leaf ls => obtain ⟨q, h1, h2⟩ := h; exact ⟨q, s _ _ h1, s _ _ h2⟩
  | tree rows => obtain ⟨q, as, h1, h2, h3⟩ := h; exact ⟨q, as, s _ _ h1, s _ _ h2, h3.mono s⟩
  | note t ps w => obtain ⟨q, h1, h2⟩ := h; exact ⟨q, s _ _ h1, s _ _ h2⟩
/-! ### heaps -/
/-- all but what S tells is as it was -/
def But (S : Addr → Prop) (H H' : Hp) : Prop := ∀ b o, ¬ S b → H b = some o → H' b = some o
theorem But.refl (S : Addr → Prop) (H : Hp) : But S H H := fun _ _ _ h => h
theorem But.trans {S : Addr → Prop} {H H1 H2 : Hp} (a : But S H H1) (b : But S H1 H2) : But S H H2 := fun c o n h => b c o n (a c o n h)
theorem But.of {S : Addr → Prop} {H H' : Hp} (s : Same H H') : But S H H' := fun b o _ e => s b o e
theorem But.put {S : Addr → Prop} {H H' : Hp} {p : Addr} {o : HO} (s : But S H H') (h : S p) : But S H (upd H' p o) := fun b u n e => by
  have ne : b ≠ p := fun z => n (by rw [z]; exact h)
  rw [upd_ne ne]; exact s b u n e
theorem Same.new {H H1 : Hp} {p : Addr} {o : HO} (s : Same H H1) (h : H1 p = none) : Same H (upd H1 p o) := fun b u e => by
  rw [upd_ne (ne_of_none (s b u e) h)]; exact s b u e
theorem Same.mut {H H1 : Hp} {p : Addr} {o : HO} (s : Same H H1) (h : H p = none) : Same H (upd H1 p o) := fun b u e => by
  rw [upd_ne (ne_of_none e h)]; exact s b u e
theorem But.new {S : Addr → Prop} {H H1 : Hp} {p : Addr} {o : HO} (s : But S H H1) (h : H1 p = none) : But S H (L2.upd H1 p o) := fun b u n e => by
  rw [upd_ne (ne_of_none (s b u n e) h)]; exact s b u n e
theorem But.mut {S : Addr → Prop} {H H1 : Hp} {p : Addr} {o : HO} (s : But S H H1) (h : H p = none) : But S H (L2.upd H1 p o) := fun b u n e => by
  rw [upd_ne (ne_of_none e h)]; exact s b u n e
theorem same_new {H : Hp} {p : Addr} {o : HO} (h : H p = none) : Same H (upd H p o) := Same.new (Same.refl H) h
/-! ### small rules -/
section
variable {X : Cx}
def tNeverE : TE := fun _ _ _ => False
theorem pe_never {e : Expr} : PE X e tNeverE := ⟨fun _ _ _ _ _ _ h => h.elim⟩
theorem pe_gv {x : Str} {v : V} {pos : Pos} (hm : ∃ u, X.mg x = some u ∧ RelV v u) (hg : Gl X x := by rfl) (hd : (x == ("__debug__" : Str)) = false := by decide) : PE X (.Name x pos) (tC v) := by
  obtain ⟨u, e, r⟩ := hm
  exact pe_glob hg e r hd
theorem pe_tyv {x : Str} {pos : Pos} (T : String) (hm : X.mg x = none) (hv : bootBuiltins x = some (.type T) := by decide +kernel) (hg : Gl X x := by rfl) (hn : x ≠ "__name__" := by decide) (hd : (x == ("__debug__" : Str)) = false := by decide) : PE X (.Name x pos) (tC (.ty T)) :=
  pe_bltn (v := .ty T) hg hm hv rfl hn hd
end
theorem isi_of {K : PySem.W.Frag} {H : Hp} {Q : VK} {x : V} {a b : String} {r : Bool} (t : TyX K H x (.type a)) (e : kitB a b = some r) (q : Q (.bl r) H) : rIsi K [x, .ty b] H Q :=
  ⟨x, .ty b, _, _, r, rfl, .ty b, t, kit_ty e, q⟩
theorem ki_ss : kitB "str" "str" = some true := by decide +kernel
theorem ki_ns : kitB "NoneType" "str" = some false := by decide +kernel
theorem ki_is : kitB "int" "str" = some false := by decide +kernel
theorem ki_ls : kitB "list" "str" = some false := by decide +kernel
theorem ki_tt : kitB "tuple" "tuple" = some true := by decide +kernel
theorem ki_dd : kitB "dict" "dict" = some true := by decide +kernel
theorem ki_ll : kitB "list" "list" = some true := by decide +kernel
theorem ki_ii : kitB "int" "int" = some true := by decide +kernel
theorem ki_ib : kitB "int" "bool" = some false := by decide +kernel
theorem isi_str {K : PySem.W.Frag} {H : Hp} {Q : VK} {x : Str} (q : Q (.bl true) H) : rIsi K [.str x, .ty "str"] H Q := isi_of (.base (.str x)) ki_ss q
theorem isi_tup {K : PySem.W.Frag} {H : Hp} {Q : VK} {a : Addr} {xs : List V} (h : H a = some (.tup xs)) (q : Q (.bl true) H) : rIsi K [.ref a, .ty "tuple"] H Q := isi_of (.base (.tup h)) ki_tt q
/-! ### dicts whose keys are things -/
def keyOf : Thing → NestedKey
  | .leaf ls => .tup [.text "leaf", .tup (ls.map .text)]
  | .tree rows => .tup [.text "tree", .tup (rows.map fun r => .tup [.text r.1, .text r.2])]
  | .note t ps w => .tup [.text "note", .text t, .tup (ps.map .text), .text w]
theorem texts_inj : ∀ {a b : List Str}, a.map NestedKey.text = b.map NestedKey.text → a = b
  | [], [], _ => rfl
  | [], _ :: _, e => by cases e
  | _ :: _, [], e => by cases e
  | x :: a, y :: b, e => by
    have e1 : NestedKey.text x :: a.map NestedKey.text = NestedKey.text y :: b.map NestedKey.text := e
    injection e1 with e2 e3
    injection e2 with e4
    rw [e4, texts_inj e3]
theorem rowkeys_inj : ∀ {a b : List (Str × Str)}, (a.map fun r => NestedKey.tup [.text r.1, .text r.2]) = (b.map fun r => NestedKey.tup [.text r.1, .text r.2]) → a = b
  | [], [], _ => rfl
  | [], _ :: _, e => by cases e
  | _ :: _, [], e => by cases e
  | x :: a, y :: b, e => by
    simp only [List.map_cons, List.cons.injEq, NestedKey.tup.injEq, NestedKey.text.injEq, and_true] at e
    obtain ⟨⟨e1, e2⟩, e3⟩ := e
    rw [rowkeys_inj e3, show x = y from Prod.ext e1 e2]
theorem keyOf_inj {a b : Thing} (e : keyOf a = keyOf b) : a = b := by
  have hs : ∀ {x y : Str}, NestedKey.text x = NestedKey.text y → x = y := fun e => by injection e
  cases a with
  | leaf ls => cases b with
    | leaf ms =>
      simp only [keyOf, NestedKey.tup.injEq, List.cons.injEq, and_true, true_and] at e
      rw [texts_inj e]
    | tree rs => simp only [keyOf, NestedKey.tup.injEq, List.cons.injEq, NestedKey.text.injEq] at e; exact absurd e.1 (by decide)
    | note t ps w => simp only [keyOf, NestedKey.tup.injEq, List.cons.injEq, NestedKey.text.injEq] at e; exact absurd e.1 (by decide)
  | tree rs => cases b with
    | leaf ms => simp only [keyOf, NestedKey.tup.injEq, List.cons.injEq, NestedKey.text.injEq] at e; exact absurd e.1 (by decide)
    | tree rs' =>
      simp only [keyOf, NestedKey.tup.injEq, List.cons.injEq, and_true, true_and] at e
      rw [rowkeys_inj e]
    | note t ps w => simp only [keyOf, NestedKey.tup.injEq, List.cons.injEq, NestedKey.text.injEq] at e; exact absurd e.1 (by decide)
  | note t ps w => cases b with
    | leaf ms => simp only [keyOf, NestedKey.tup.injEq, List.cons.injEq, NestedKey.text.injEq] at e; exact absurd e.1 (by decide)
    | tree rs' => simp only [keyOf, NestedKey.tup.injEq, List.cons.injEq, NestedKey.text.injEq] at e; exact absurd e.1 (by decide)
    | note t' ps' w' =>
      simp only [keyOf, NestedKey.tup.injEq, List.cons.injEq, NestedKey.text.injEq, and_true, true_and] at e
      obtain ⟨e1, e2, e3⟩ := e
      rw [e1, texts_inj e2, e3]
end An

namespace An
open PySem PySem.Spec PyProof.Rows L2
section
variable {P : Program} {w : World} {H : Hp} {h : Heap}
theorem all_texts {h : Heap} : ∀ {ls : List Str} {us : List Value}, Vals (ls.map V.str) us → NestedAll h (ls.map .text) us
  | [], _, .nil => .nil
  | _ :: _, _, .cons r t => by
    obtain ⟨tk, e⟩ := r
    subst e
    exact .cons (.text _ _) (all_texts t)
theorem nested_tup {a : Addr} {xs : List V} {ks : List NestedKey} (ok : HOk P w H h) (e : H a = some (.tup xs)) (k : ∀ its, Vals xs its → NestedAll h ks its) : NestedIs h (.tup ks) (.ref a) := by
  obtain ⟨_, its, rv, o, h1, h2, n, h3⟩ := (show ObjOk P w H h a (.tup xs) from ok a _ e)
  exact .tup h1 h2 h3 (by simpa using k its rv)
theorem nested_ls {a : Addr} {ls : List Str} (ok : HOk P w H h) (e : LsAt H a ls) : NestedIs h (.tup (ls.map .text)) (.ref a) := nested_tup ok e fun _ r => all_texts r
theorem nested_rows (ok : HOk P w H h) : ∀ {as : List Addr} {rows : List (Str × Str)} {us : List Value}, RowsAt H as rows → Vals (as.map V.ref) us → NestedAll h (rows.map fun r => .tup [.text r.1, .text r.2]) us
  | [], [], _, .nil, .nil => .nil
  | a :: _, r :: _, _, .cons e t, .cons v tv => by
    have ev := v
    cases (show _ = Value.ref a from ev)
    refine .cons (nested_tup ok e fun its rv => ?_) (nested_rows ok t tv)
    exact all_texts (ls := [r.1, r.2]) rv
theorem nested_of {a : Addr} {t : Thing} (ok : HOk P w H h) (e : ThAt H a t) : NestedIs h (keyOf t) (.ref a) := by
  cases t with
  | leaf ls =>
    obtain ⟨q, h1, h2⟩ := e
    refine nested_tup ok h1 fun its rv => ?_
    cases rv with
    | cons r1 r2 => cases r2 with
      | cons r3 r4 =>
        cases r4
        obtain ⟨tk, e1⟩ := r1
        subst e1
        cases (show _ = Value.ref q from r3)
        exact .cons (.text _ _) (.cons (nested_ls ok h2) .nil)
  | tree rows =>
    obtain ⟨q, as, h1, h2, h3⟩ := e
    refine nested_tup ok h1 fun its rv => ?_
    cases rv with
    | cons r1 r2 => cases r2 with
      | cons r3 r4 =>
        cases r4
        obtain ⟨tk, e1⟩ := r1
        subst e1
        cases (show _ = Value.ref q from r3)
        exact .cons (.text _ _) (.cons (nested_tup ok h2 fun its rv => nested_rows ok h3 rv) .nil)
  | note t ps w =>
    obtain ⟨q, h1, h2⟩ := e
    refine nested_tup ok h1 fun its rv => ?_
    cases rv with
    | cons r1 r2 => cases r2 with
      | cons r3 r4 => cases r4 with
        | cons r5 r6 => cases r6 with
          | cons r7 r8 =>
            cases r8
            obtain ⟨tk, e1⟩ := r1
            subst e1
            obtain ⟨tk, e1⟩ := r3
            subst e1
            cases (show _ = Value.ref q from r5)
            obtain ⟨tk, e1⟩ := r7
            subst e1
            exact .cons (.text _ _) (.cons (.text _ _) (.cons (nested_ls ok h2) (.cons (.text _ _) .nil)))
theorem depth_texts : ∀ ls : List Str, NestedKey.depthAll (ls.map .text) = 0
  | [] => rfl
  | _ :: r => by
    simp only [List.map_cons, NestedKey.depthAll, NestedKey.depth, depth_texts r]
    rfl
theorem depth_rows : ∀ rows : List (Str × Str), NestedKey.depthAll (rows.map fun r => .tup [.text r.1, .text r.2]) ≤ 1
  | [] => Nat.zero_le _
  | _ :: r => by
    have h := depth_rows r
    simp only [List.map_cons, NestedKey.depthAll, NestedKey.depth]
    omega
theorem depth_key (t : Thing) : (keyOf t).depth ≤ 8 := by
  cases t with
  | leaf ls => simp only [keyOf, NestedKey.depth, NestedKey.depthAll, depth_texts]; omega
  | tree rows =>
    have h := depth_rows rows
    simp only [keyOf, NestedKey.depth, NestedKey.depthAll]; omega
  | note t ps w => simp only [keyOf, NestedKey.depth, NestedKey.depthAll, depth_texts]; omega
theorem is_key {a : Addr} {t : Thing} (ok : HOk P w H h) (e : ThAt H a t) : (nestedKind P w).is h (keyOf t) a := ⟨nested_of ok e, depth_key t⟩
end
/-! ### the dict -/
abbrev TL := List (Thing × Addr × Str)
def tdGet (kvs : TL) (t : Thing) : Option Str := (kvs.find? fun x => decide (x.1 = t)).map (·.2.2)
def tdPut (kvs : TL) (t : Thing) (a : Addr) (z : Str) : TL :=
  if (tdGet kvs t).isSome then kvs.map (fun x => if x.1 = t then (x.1, x.2.1, z) else x) else kvs ++ [(t, a, z)]
abbrev TR : (Thing × Addr × Str) → (NestedKey × Addr × Value) → Prop := fun p q => keyOf p.1 = q.1 ∧ p.2.1 = q.2.1 ∧ ∃ t, q.2.2 = Value.str p.2.2 t
def TD (P : Program) (w : World) (a : Addr) (kvs : TL) : HO := .ext fun h => kvs.length ≤ sizeLine ∧ (a == sysModules) = false ∧
  ∃ xs : List (NestedKey × Addr × Value), Paired TR kvs xs ∧ ∃ o es ep, h.get? a = some o ∧ o.ExactDict ∧ o.data = .dict es ep ∧ es.toList = xs.map (entryOfKey (nestedKind P w)) ∧ (xs.map (·.1)).Nodup
/-- the dict at a, its keys where they stand -/
def TdAt (P : Program) (w : World) (H : Hp) (a : Addr) (kvs : TL) : Prop := H a = some (TD P w a kvs) ∧ ∀ x ∈ kvs, ThAt H x.2.1 x.1
theorem decKey (a b : Thing) : decide (keyOf a = keyOf b) = decide (a = b) := by
  by_cases e : a = b
  · subst e; simp
  · rw [decide_eq_false e, decide_eq_false (fun q => e (keyOf_inj q))]
theorem td_get {kvs : TL} {xs : List (NestedKey × Addr × Value)} (r : Paired TR kvs xs) (t : Thing) :
    match tdGet kvs t with
    | some z => ∃ p tk, atKey xs (keyOf t) = some (p, Value.str z tk)
    | none => atKey xs (keyOf t) = none := by
  induction r with
  | nil => rfl
  | @cons p q ps qs h _ ih =>
    obtain ⟨h1, h2, tk, h3⟩ := h
    unfold tdGet atKey at ih ⊢
    rw [List.find?_cons, List.find?_cons]
    have e : decide (q.1 = keyOf t) = decide (p.1 = t) := by rw [← h1]; exact decKey _ _
    rw [e]
    cases hd : decide (p.1 = t) with
    | true => exact ⟨q.2.1, tk, by show some q.2 = _; rw [← h3]⟩
    | false => exact ih
theorem td_isSome {kvs : TL} {xs : List (NestedKey × Addr × Value)} (r : Paired TR kvs xs) (t : Thing) : (atKey xs (keyOf t)).isSome = (tdGet kvs t).isSome := by
  have h := td_get r t
  cases e : tdGet kvs t with
  | none => rw [e] at h; rw [h]; rfl
  | some z => rw [e] at h; obtain ⟨p, tk, h⟩ := h; rw [h]; rfl
theorem paired_mem {α β : Type} {F : α → β → Prop} : ∀ {l : List α} {m : List β}, Paired F l m → ∀ y ∈ m, ∃ x ∈ l, F x y
  | _, _, .nil, y, hy => by cases hy
  | _, _, .cons h t, y, hy => by
    rcases List.mem_cons.mp hy with e | e
    · subst e; exact ⟨_, List.mem_cons_self, h⟩
    · obtain ⟨x, hx, f⟩ := paired_mem t y e
      exact ⟨x, List.mem_cons_of_mem _ hx, f⟩
theorem paired_snoc {α β : Type} {F : α → β → Prop} : ∀ {l : List α} {m : List β} {x : α} {y : β}, Paired F l m → F x y → Paired F (l ++ [x]) (m ++ [y])
  | _, _, _, _, .nil, h => .cons h .nil
  | _, _, _, _, .cons a t, h => .cons a (paired_snoc t h)
theorem td_repl {kvs : TL} {xs : List (NestedKey × Addr × Value)} (r : Paired TR kvs xs) (t : Thing) (z : Str) (tk : Tok) :
    Paired TR (kvs.map fun x => if x.1 = t then (x.1, x.2.1, z) else x) (xs.map (putAt (keyOf t) (Value.str z tk))) := by
  induction r with
  | nil => exact .nil
  | @cons p q ps qs h _ ih =>
    rw [List.map_cons, List.map_cons]
    refine .cons ?_ ih
    obtain ⟨h1, h2, tk', h3⟩ := h
    unfold putAt
    by_cases e : p.1 = t
    · rw [if_pos e, if_pos (by rw [← h1, e])]
      exact ⟨h1, h2, tk, rfl⟩
    · rw [if_neg e, if_neg (fun z => e (keyOf_inj (h1.trans z)))]
      exact ⟨h1, h2, tk', h3⟩
theorem td_put {kvs : TL} {xs : List (NestedKey × Addr × Value)} (r : Paired TR kvs xs) (t : Thing) (a : Addr) (z : Str) (tk : Tok) :
    Paired TR (tdPut kvs t a z) (storedH xs (keyOf t) a (Value.str z tk)) := by
  unfold tdPut storedH
  rw [td_isSome r]
  split
  · exact td_repl r t z tk
  · exact paired_snoc r ⟨rfl, rfl, tk, rfl⟩
theorem tdPut_len (kvs : TL) (t : Thing) (a : Addr) (z : Str) : (tdPut kvs t a z).length ≤ kvs.length + 1 := by
  unfold tdPut
  split
  · rw [List.length_map]; omega
  · rw [List.length_append]; exact Nat.le_refl _
theorem tdPut_mem {kvs : TL} {t : Thing} {a : Addr} {z : Str} {x : Thing × Addr × Str} (h : x ∈ tdPut kvs t a z) : (x ∈ kvs) ∨ x = (t, a, z) ∨ ∃ y ∈ kvs, y.1 = t ∧ x = (t, y.2.1, z) := by
  unfold tdPut at h
  split at h
  · obtain ⟨y, hy, e⟩ := List.mem_map.mp h
    by_cases c : y.1 = t
    · rw [if_pos c] at e
      refine .inr (.inr ⟨y, hy, c, ?_⟩)
      rw [← e, c]
    · rw [if_neg c] at e
      exact .inl (e ▸ hy)
  · rcases List.mem_append.mp h with q | q
    · exact .inl q
    · exact .inr (.inl (List.mem_singleton.mp q))
theorem tdGet_mem {kvs : TL} {t : Thing} {z : Str} (h : tdGet kvs t = some z) : ∃ a, (t, a, z) ∈ kvs := by
  unfold tdGet at h
  obtain ⟨x, hx, e⟩ := Option.map_eq_some_iff.mp h
  have h1 := List.mem_of_find?_eq_some hx
  have h2 : x.1 = t := by simpa using List.find?_some hx
  exact ⟨x.2.1, by rw [← e, ← h2]; exact h1⟩
section
variable {P : Program} {w : World}
/-- what the object must be -/
theorem td_obj {H H' : Hp} {h : Heap} {a : Addr} {kvs : TL} {xs : List (NestedKey × Addr × Value)} (z : kvs.length ≤ sizeLine) (hd : (a == sysModules) = false) (r : Paired TR kvs xs) (m : h.DictOfH (nestedKind P w) a xs) : ObjOk P w H h a (TD P w a kvs) := by
  obtain ⟨o, es, ep, h1, h2, h3, h4, _, h5⟩ := m
  refine ⟨⟨z, hd, xs, r, o, es, ep, h1, h2, h3, h4, h5⟩, ⟨o, h1⟩, ?_⟩
  rintro g1 g2 ⟨z, hd, xs, r, o, es, ep, h1, h2, h3, h4, h5⟩ k
  exact ⟨z, hd, xs, r, o, es, ep, k _ h1, h2, h3, h4, h5⟩
theorem td_of {H : Hp} {h : Heap} {a : Addr} {kvs : TL} (ok : HOk P w H h) (t : TdAt P w H a kvs) : kvs.length ≤ sizeLine ∧ (a == sysModules) = false ∧ ∃ xs, Paired TR kvs xs ∧ h.DictOfH (nestedKind P w) a xs := by
  obtain ⟨⟨z, hd, xs, r, o, es, ep, h1, h2, h3, h4, h5⟩, _, _⟩ := ok a _ t.1
  refine ⟨z, hd, xs, r, o, es, ep, h1, h2, h3, h4, fun y hy => ?_, h5⟩
  obtain ⟨x, hx, e1, e2, _⟩ := paired_mem r y hy
  rw [← e1, ← e2]
  exact is_key ok (t.2 x hx)
end
section
variable {X : Cx} {pos pos' : Pos} {o i value : Expr} {td ty tv : TE}
theorem nroom {A : Around} (hu : A.units + 64 < cLine) : A.in1.units + 8 < cLine := by
  show A.units + 1 + 8 < cLine
  omega
def tTIn (P : Program) (w : World) (ty td : TE) : TE := fun σ H Q => ty σ H fun y H1 => td σ H1 fun x H2 => ∃ a p kvs t, x = .ref a ∧ y = .ref p ∧ TdAt P w H2 a kvs ∧ ThAt H2 p t ∧ Q (.bl (tdGet kvs t).isSome) H2
def tTGet (P : Program) (w : World) (td ty : TE) : TE := fun σ H Q => td σ H fun x H1 => ty σ H1 fun y H2 => ∃ a p kvs t z, x = .ref a ∧ y = .ref p ∧ TdAt P w H2 a kvs ∧ ThAt H2 p t ∧ tdGet kvs t = some z ∧ Q (.str z) H2
def sTPut (P : Program) (w : World) (td ty tv : TE) : TS := fun D σ H => tv σ H fun v H1 => td σ H1 fun x H2 => ty σ H2 fun y H3 => ∃ a p kvs t z, x = .ref a ∧ y = .ref p ∧ v = .str z ∧ TdAt P w H3 a kvs ∧ ThAt H3 p t ∧ kvs.length < sizeLine ∧ D.nx σ (upd H3 a (TD P w a (tdPut kvs t p z)))
def tTNew (P : Program) (w : World) : TE := fun _ H Q => ∀ p, H p = none → Q (.ref p) (upd H p (TD P w p []))
theorem pc_tin (hu : X.A.units + 64 < cLine) (hi : PE X i ty) (ho : PE X o td) : PC X .In i o (tTIn X.prog X.w ty td) := by
  refine ⟨fun pins s σ H Q I h => ?_⟩
  refine thn (hi.run pins s σ H _ I h) fun iv s1 ⟨y, H1, I1, ry, q1⟩ => thn (ho.run pins s1 σ H1 _ I1 q1) fun u s2 ⟨x, H2, I2, rx, a, p, kvs, t, ex, ey, td, tt, q2⟩ => ?_
  subst ex ey
  obtain rfl : u = Value.ref a := rx
  obtain rfl : iv = Value.ref p := ry
  obtain ⟨z, hd, xs, r, m⟩ := td_of I2.hok td
  refine wpAny_in_heap (nroom hu) (is_key I2.hok tt) hd m ?_
  rw [td_isSome r]
  exact ⟨.bl _, H2, I2.tok _, rfl, q2⟩
theorem pe_tget (hu : X.A.units + 64 < cLine) (ho : PE X o td) (hi : PE X i ty) (hs : NoSl i) : PE X (.Subscript o i pos) (tTGet X.prog X.w td ty) := by
  refine ⟨fun pins s σ H Q I h => ?_⟩
  refine subD_of PySem.F.slot_dict_getitem.lookup hs (thn (ho.run pins s σ H _ I h) fun u s1 ⟨x, H1, I1, rx, q1⟩ => thn (hi.run pins s1 σ H1 _ I1 q1) fun iv s2 ⟨y, H2, I2, ry, a, p, kvs, t, z, ex, ey, td, tt, g, q2⟩ => ?_)
  subst ex ey
  obtain rfl : u = Value.ref a := rx
  obtain rfl : iv = Value.ref p := ry
  obtain ⟨zz, hd, xs, r, m⟩ := td_of I2.hok td
  have g2 := td_get r t
  rw [g] at g2
  obtain ⟨p2, tk, g3⟩ := g2
  exact ⟨m.typeIs, wpAny_getItem_heap (nroom hu) (is_key I2.hok tt) m g3 ⟨.str z, H2, I2.tok _, ⟨tk, rfl⟩, q2⟩⟩
theorem ps_tput (hu : X.A.units + 64 < cLine) (ho : PE X o td) (hi : PE X i ty) (hv : PE X value tv) (hs : swapsWith value (some (.Subscript o i pos')) pos.line X.env = pure false) :
    PS X (.Assign [.Subscript o i pos'] value pos) (sTPut X.prog X.w td ty tv) := by
  refine ⟨fun pins s σ H D I h => ?_⟩
  refine wpAny_Assign_Subscript (thn (hv.run pins s σ H _ I h) fun r s1 ⟨v, H1, I1, rv, q1⟩ => thn (ho.run pins s1 σ H1 _ I1 q1) fun u s2 ⟨x, H2, I2, rx, q2⟩ => thn (hi.run pins s2 σ H2 _ I2 q2) fun iv s3 ⟨y, H3, I3, ry, a, p, kvs, t, z, ex, ey, ev, td, tt, hl, q3⟩ => ?_) hs
  subst ex ey ev
  obtain rfl : u = Value.ref a := rx
  obtain rfl : iv = Value.ref p := ry
  obtain ⟨tk, rfl⟩ := rv
  obtain ⟨zz, hd, xs, r, m⟩ := td_of I3.hok td
  have hz : xs.length ≤ sizeLine := by rw [← Paired.length r]; exact zz
  refine wpAny_setItem_heap (hsz := hz) (nroom hu) (is_key I3.hok tt) m fun h' m' hs' => ?_
  have he : ∃ q, h'.get? a = some q := let ⟨q, _, _, hq, _⟩ := m'; ⟨q, hq⟩
  have hl2 : (tdPut kvs t p z).length ≤ sizeLine := by have := tdPut_len kvs t p z; omega
  exact ⟨σ, _, d_write I3 (by rw [td.1]; exact True.intro) hs' he (td_obj (H' := H3) hl2 hd (td_put r t p z tk) m'), q3⟩
theorem pe_tnew : PE X (.Dict [] [] pos) (tTNew X.prog X.w) := ⟨fun pins s σ H Q I h =>
  wpAny_Dict_empty ⟨.ref s.heap.objs.size, _, I.laid (a := s.heap.objs.size) (o := TD X.prog X.w s.heap.objs.size []) (t' := s.toks) (fun _ _ q => Heap.get?_push_of_some _ q) (Nat.le_refl _)
    (td_obj (H' := H) (Nat.zero_le _) (beq_eq_false_iff_ne.mpr (Ne.symm (Nat.ne_of_lt I.big))) .nil (Heap.DictOfH.new s.heap)), rfl, h _ (I.hok.fresh (Nat.le_refl _))⟩⟩
end
theorem TdAt.mono {P : Program} {w : World} {H H' : Hp} {a : Addr} {kvs : TL} (t : TdAt P w H a kvs) (e : H' a = H a) (s : Tups H H') : TdAt P w H' a kvs := ⟨e.trans t.1, fun x hx => (t.2 x hx).mono s⟩
end An

namespace An
open PySem PySem.Spec PyProof.Rows L2
/-! ### calls of defs, by one bundle each -/
structure Gf (P : Program) (w : World) (K : PySem.W.Frag) (mg : Str → Option Value) (base : Heap) (CX : CXT) (k : Nat) (f : Addr) (ps : List Str) (sp : Sp) : Prop where
  ex : ∃ fd, FnOk P w K mg base CX k f fd ps sp ∧ Binds K fd ps [] ∧ PySem.W.keepIn K (.ref f) = true
section
variable {P : Program} {w : World} {K : PySem.W.Frag} {mg : Str → Option Value} {base : Heap} {CX : CXT} {j k : Nat} {f : Addr} {ps : List Str} {sp sp' : Sp}
theorem Gf.mono (G : Gf P w K mg base CX j f ps sp) (h : j ≤ k) : Gf P w K mg base CX k f ps sp := by
  obtain ⟨fd, F, b, kp⟩ := G.ex
  exact ⟨fd, F.mono h, b, kp⟩
theorem Gf.imp (G : Gf P w K mg base CX k f ps sp) (h : ∀ vs H Q E, sp' vs H Q E → sp vs H Q E) : Gf P w K mg base CX k f ps sp' := by
  obtain ⟨fd, F, b, kp⟩ := G.ex
  exact ⟨fd, F.imp h, b, kp⟩
/-- THE RULE for a def -/
theorem gf_of {x qual : Str} {params : Arguments} {body : List Stmt} {scope : Scope} {N : List Str} (d : ∃ fd, FunD K x qual params body scope [] [] f fd) (S : FnScope N ps scope)
    (bnd : ∀ (kV doc pm : Value) (an : Option Addr) (cdv ct : Value) (us : List Value), us.length = ps.length → bindArgs (PySem.W.fnOf x qual params body scope .none kV doc pm an cdv ct) ⟨us, []⟩ = pure (ps.zip us))
    (len : ∀ vs H Q E, sp vs H Q E → vs.length = ps.length)
    (hbody : ∀ (cdv : Value) (A : Around) (outer : List Env) (s : Shared) (H : Hp) (vs : List V) (Q : VK) (E : XK), Room k (A.deeper (envOfC qual scope s.heap.objs.size f cdv)) → sp vs H Q E →
      ∃ t, PSs (cxOf CX P w K mg base N qual scope f cdv A outer s H E) body t ∧ t { nx := fun _ H' => Q .non H', rt := Q } (start N vs) H) : Gf P w K mg base CX (k + 1) f ps sp := by
  obtain ⟨fd, F⟩ := d
  exact ⟨fd, F.ok S len hbody, F.bindsN bnd, F.kp⟩
/-- .. that lets nothing out -/
theorem gf0_of {x qual : Str} {params : Arguments} {body : List Stmt} {scope : Scope} {N : List Str} (d : ∃ fd, FunD K x qual params body scope [] [] f fd) (S : FnScope N ps scope)
    (bnd : ∀ (kV doc pm : Value) (an : Option Addr) (cdv ct : Value) (us : List Value), us.length = ps.length → bindArgs (PySem.W.fnOf x qual params body scope .none kV doc pm an cdv ct) ⟨us, []⟩ = pure (ps.zip us))
    (len : ∀ vs H Q E, sp vs H Q E → vs.length = ps.length)
    (hbody : ∀ (cdv : Value) (A : Around) (outer : List Env) (s : Shared) (H : Hp) (vs : List V) (Q : VK) (E : XK), Room k (A.deeper (envOfC qual scope s.heap.objs.size f cdv)) → sp vs H Q E →
      ∃ t, PSs (cxOf CX0 P w K mg base N qual scope f cdv A outer s H E).nox body t ∧ t { nx := fun _ H' => Q .non H', rt := Q } (start N vs) H) : Gf P w K mg base CX0 (k + 1) f ps sp :=
  gf_of d S bnd len fun cdv A outer s H vs Q E hr h => let ⟨t, a, b⟩ := hbody cdv A outer s H vs Q E hr h; ⟨t, a.nox, b⟩
end
section
variable {X : Cx} {CX : CXT} {k : Nat} {f C : Addr} {ps : List Str} {sp : Sp} {E : XK} {x m : Str} {p pos apos : Pos} {e o : Expr} {es : List Expr} {t : TA} {ta : TE}
theorem pe_fn (G : Gf X.prog X.w X.K X.mg X.base CX k f ps sp) (hr : Room k X.A) (hm : X.mg x = some (.ref f)) (hx : Passes CX X E) (ha : PA X (e :: es) t) (hg : Gl X x := by rfl) (hdb : (x == ("__debug__" : Str)) = false := by decide)
    (he : starEach (e :: es) X.env = (false, eval e X.env) :: starEach es X.env := by rfl) (hpl : (backTo pos (starEach es X.env)).any (·.1) = false := by rfl) : PE X (.Call (.Name x p) (e :: es) [] pos) (tCall sp [] E t) := by
  obtain ⟨fd, F, b, kp⟩ := G.ex
  exact pe_call F hr hg hm kp b .nil hx ha hdb he hpl
theorem pe_mt {pl : Sem Bool} (c : Cls X.K C) (hm : Meth X.K C m f) (G : Gf X.prog X.w X.K X.mg X.base CX k f ps sp) (hr : Room k X.A) (hx : Passes CX X E) (ho : PE X o ta) (ha : PA X (e :: es) t)
    (hst : starEach (e :: es) X.env = (false, eval e X.env) :: starEach es X.env := by rfl) (hpl : (backTo pos (starEach es X.env)).any (·.1) = false := by rfl)
    (ht : eval (.Call (.Attribute o m apos) (e :: es) [] pos) X.env = (do
      let ov ← eval o X.env
      standAt apos.atName
      let (f, first) ← holding [ov] (getMethod ov m pl)
      callWith pos f first (backTo pos (starEach (e :: es) X.env)) (backToKw pos (keywordEach [] X.env))) := by rfl) :
    PE X (.Call (.Attribute o m apos) (e :: es) [] pos) (tMeth C m sp [] E ta t) := by
  obtain ⟨fd, F, b, kp⟩ := G.ex
  exact pe_meth ho c hm F hr b .nil hx ha hst hpl ht
theorem pe_mt0 {pl : Sem Bool} (c : Cls X.K C) (hm : Meth X.K C m f) (G : Gf X.prog X.w X.K X.mg X.base CX k f ps sp) (hr : Room k X.A) (hx : Passes CX X E) (ho : PE X o ta)
    (ht : eval (.Call (.Attribute o m apos) [] [] pos) X.env = (do
      let ov ← eval o X.env
      standAt apos.atName
      let (f, first) ← holding [ov] (getMethod ov m pl)
      callWith pos f first (backTo pos (starEach [] X.env)) (backToKw pos (keywordEach [] X.env))) := by rfl) :
    PE X (.Call (.Attribute o m apos) [] [] pos) (tMeth C m sp [] E ta tNil) := by
  obtain ⟨fd, F, b, kp⟩ := G.ex
  exact pe_meth0 ho c hm F hr b .nil hx ht
theorem pe_mk (M : Mk X.K C f) (G : Gf X.prog X.w X.K X.mg X.base CX k f ps sp) (hr : Room (k + 1) X.A) (hm : X.mg x = some (.ref C)) (hx : Passes CX X E) (ha : PA X (e :: es) t) (hg : Gl X x := by rfl) (hdb : (x == ("__debug__" : Str)) = false := by decide)
    (he : starEach (e :: es) X.env = (false, eval e X.env) :: starEach es X.env := by rfl) (hpl : (backTo pos (starEach es X.env)).any (·.1) = false := by rfl) : PE X (.Call (.Name x p) (e :: es) [] pos) (tMake C sp [] E t) := by
  obtain ⟨fd, F, b, kp⟩ := G.ex
  exact pe_make M F hr hg hm b .nil hx ha hdb he hpl
end
/-! ### calls in a try's body -/
section
variable {X : Cx} {CX : CXT} {k : Nat} {f C : Addr} {ps : List Str} {sp : Sp} {E : L2.St → XK} {x m : Str} {p pos apos : Pos} {e o : Expr} {es : List Expr} {t : TA} {ta : TE}
def tMethS (C : Addr) (m : Str) (sp : Sp) (E : L2.St → XK) (ta : TE) (t : TA) : TE := fun σ H Q => ta σ H fun x H1 => ∃ a dx fs, x = .ref a ∧ H1 a = some (.ins C dx fs) ∧ fs.lookup m = none ∧ t σ H1 fun vs H2 => sp (x :: vs) H2 Q (E σ)
theorem pe_mtS {pl : Sem Bool} (c : Cls X.K C) (hm : Meth X.K C m f) (G : Gf X.prog X.w X.K X.mg X.base CX k f ps sp) (hr : Room k X.A) (hx : ∀ σ, PassesAt CX X σ (E σ)) (ho : PE X o ta) (ha : PA X (e :: es) t)
    (hst : starEach (e :: es) X.env = (false, eval e X.env) :: starEach es X.env := by rfl) (hpl : (backTo pos (starEach es X.env)).any (·.1) = false := by rfl)
    (ht : eval (.Call (.Attribute o m apos) (e :: es) [] pos) X.env = (do
      let ov ← eval o X.env
      standAt apos.atName
      let (f, first) ← holding [ov] (getMethod ov m pl)
      callWith pos f first (backTo pos (starEach (e :: es) X.env)) (backToKw pos (keywordEach [] X.env))) := by rfl) :
    PE X (.Call (.Attribute o m apos) (e :: es) [] pos) (tMethS C m sp E ta t) := by
  obtain ⟨fd, F, b, kp⟩ := G.ex
  refine ⟨fun pins s σ H Q I h => ?_⟩
  refine PySem.W.methodCall_KW (pl := pl) (thn (ho.run pins s σ H _ I h) fun u s1 ⟨x, H1, I1, rx, a, dx, fs, ex, ea, l, q⟩ => ?_) ht
  subst ex
  obtain rfl : u = Value.ref a := rx
  refine getmeth_ok I1 ea c hm l ?_
  refine PySem.W.callWith_K (first := [.ref a]) (h₀ := X.base) I.ok.mod.kin hm.kp (thn (ha.run pos pins s1 σ H1 _ I1 q) fun us s2 ⟨vs, H2, I2, r, q2⟩ => ⟨I2.kIn, ?_⟩) hst hpl
  exact run_fnS (us := .ref a :: us) (vs := .ref a :: vs) F hr b (hx σ) I2 (.cons rfl r) q2
def tMakeS (C : Addr) (sp : Sp) (E : L2.St → XK) (t : TA) : TE := fun σ H Q => t σ H fun vs H1 => ∀ x dx, H1 x = none → H1 dx = none → dx ≠ x → sp (.ref x :: vs) (upd (upd H1 dx (.own x)) x (.ins C dx [])) (fun v H2 => v = .non ∧ Q (.ref x) H2) (E σ)
theorem pe_mkS (M : Mk X.K C f) (G : Gf X.prog X.w X.K X.mg X.base CX k f ps sp) (hr : Room (k + 1) X.A) (hm : X.mg x = some (.ref C)) (hx : ∀ σ, PassesAt CX X σ (E σ)) (ha : PA X (e :: es) t) (hg : Gl X x := by rfl) (hdb : (x == ("__debug__" : Str)) = false := by decide)
    (he : starEach (e :: es) X.env = (false, eval e X.env) :: starEach es X.env := by rfl) (hpl : (backTo pos (starEach es X.env)).any (·.1) = false := by rfl) : PE X (.Call (.Name x p) (e :: es) [] pos) (tMakeS C sp E t) := by
  obtain ⟨fd, F, b, kp⟩ := G.ex
  refine ⟨fun pins s σ H Q I h => ?_⟩
  refine wpAny_Call_Name_kw (ld_glob I hg hm ?_ hdb)
  refine PySem.W.callWith_K (h₀ := X.base) I.ok.mod.kin M.kp (thn (ha.run pos pins s σ H _ I h) fun us s1 ⟨vs, H1, I1, r, h⟩ => ⟨I1.kIn, ?_⟩) he hpl
  have hq := h (s1.heap.objs.size + 1) s1.heap.objs.size (I1.hok.fresh (Nat.le_succ _)) (I1.hok.fresh (Nat.le_refl _)) (Nat.ne_of_lt (Nat.lt_succ_self _))
  have I2 := Inv.made (C := C) I1
  have r2 : Vals (V.ref (s1.heap.objs.size + 1) :: vs) (Value.ref (s1.heap.objs.size + 1) :: us) := .cons rfl r
  have hl : (Value.ref (s1.heap.objs.size + 1) :: us ++ []).length = ps.length := by
    have e := r2.length
    rw [F.len _ _ _ _ hq] at e
    rw [List.append_nil]
    exact e.symm
  have bb := b _ (Value.ref (s1.heap.objs.size + 1) :: us) I2.kIn hl
  rw [List.append_nil] at bb
  refine wpAny_call (make_map (f := f) I1.kIn M.makes M.init (beq_iff_eq.mp M.fn) (codeAny_mono (F.run _ X.stack _ _ ⟨Value.ref (s1.heap.objs.size + 1) :: us, []⟩ (Value.ref (s1.heap.objs.size + 1) :: us) _ _ (E σ) (hr.make C us [])
    (I2.env0.make C us []) bb r2 hq) fun r s' hq' => ?_))
  cases r with
  | error e => exact hx σ pins _ _ e s' I2 hq'
  | ok fl =>
    cases fl with
    | ret u =>
      obtain ⟨v, H', I3, rv, ev, q3⟩ := I2.after hq'
      subst ev
      exact ⟨rv, ⟨V.ref (s1.heap.objs.size + 1), H', I3, rfl, q3⟩⟩
    | next => exact False.elim hq'
    | brk => exact False.elim hq'
    | cont => exact False.elim hq'
end
/-! ### a op1 b op2 c op3 d, as a test -/
section
variable {X : Cx} {a b c d : Expr} {pos : Pos} {ta tb tc td : TE}
def tChain3 (r1 r2 r3 : R2) (ta tb tc td : TE) : TT := fun σ H Q => ta σ H fun x H1 => tb σ H1 fun y H2 => r1 x y H2 fun z1 H3 => ∃ k, z1 = .bl k ∧
  (if k = true then tc σ H3 fun u H4 => r2 y u H4 fun z2 H5 => ∃ k2, z2 = .bl k2 ∧ (if k2 = true then td σ H5 fun v H6 => r3 u v H6 fun z3 H7 => ∃ k3, z3 = .bl k3 ∧ Q k3 H7 else Q false H5) else Q false H3)
theorem pt_chain3 {op1 op2 op3 : CmpOp} {r1 r2 r3 : R2} (h1 : OpR X (compareOp op1) r1) (h2 : OpR X (compareOp op2) r2) (h3 : OpR X (compareOp op3) r3) (ha : PE X a ta) (hb : PE X b tb) (hc : PE X c tc) (hd : PE X d td)
    (hm : lastMarks [op1, op2, op3] [b, c, d] = false := by with_unfolding_all rfl) : PT X (.Compare a [op1, op2, op3] [b, c, d] pos) (tChain3 r1 r2 r3 ta tb tc td) := by
  refine ⟨fun pins s σ H Q I h => ?_⟩
  refine isTrue_chain (thn (ha.run pins s σ H _ I h) fun v s1 ⟨x, H1, I1, q1, w1⟩ => test_link (thn (hb.run pins s1 σ H1 _ I1 w1) fun u s2 ⟨y, H2, I2, q2, w2⟩ =>
    thn (h1 pins s2 σ H2 x y v u _ I2 q1 q2 w2) fun dd s3 ⟨z, H3, I3, q3, k, e, w3⟩ => ?_)) hm
  subst e
  cases q3
  refine wpAny_truthy_bool ?_
  cases k with
  | false => exact ite_ff ⟨H3, I3, w3⟩
  | true =>
    refine ite_tt (test_link (thn (hc.run pins s3 σ H3 _ I3 w3) fun u2 s4 ⟨y2, H4, I4, q4, w4⟩ => thn (h2 pins s4 σ H4 y y2 u u2 _ I4 q2 q4 w4) fun d2 s5 ⟨z2, H5, I5, q5, k2, e2, w5⟩ => ?_))
    subst e2
    cases q5
    refine wpAny_truthy_bool ?_
    cases k2 with
    | false => exact ite_ff ⟨H5, I5, w5⟩
    | true =>
      refine ite_tt (test_last (thn (hd.run pins s5 σ H5 _ I5 w5) fun u3 s6 ⟨y3, H6, I6, q6, w6⟩ => thn (h3 pins s6 σ H6 y2 y3 u2 u3 _ I6 q4 q6 w6) fun d3 s7 ⟨z3, H7, I7, q7, k3, e3, w7⟩ => ?_))
      subst e3
      cases q7
      exact wpAny_truthy_bool ⟨H7, I7, w7⟩
end
/-! ### xs[::k] -/
section
variable {X : Cx}
theorem vals_sub : ∀ {us its : List Value} {xs : List V}, Vals xs its → (∀ u ∈ us, u ∈ its) → ∃ ys : List V, Vals ys us ∧ (∀ y ∈ ys, y ∈ xs)
  | [], _, _, _, _ => ⟨[], .nil, fun _ h => by cases h⟩
  | u :: r, its, xs, h, m => by
    obtain ⟨ys, h1, h2⟩ := vals_sub (us := r) h fun z hz => m z (List.mem_cons_of_mem _ hz)
    obtain ⟨i, hi⟩ := List.mem_iff_getElem?.mp (m u List.mem_cons_self)
    have hx : ∃ x, xs[i]? = some x := by
      have hl := h.length
      have := (List.getElem?_eq_some_iff.mp hi).1
      exact ⟨xs[i], List.getElem?_eq_getElem (by omega)⟩
    obtain ⟨x, hx⟩ := hx
    obtain ⟨u', e1, e2⟩ := h.get hx
    rw [hi] at e1
    cases e1
    exact ⟨x :: ys, .cons e2 h1, fun y hy => (List.mem_cons.mp hy).elim (fun e => e ▸ List.mem_of_getElem? hx) (h2 y)⟩
/-- the step: an int, told ahead of what is asked of it -/
def tStepL (K : PySem.W.Frag) (te tk : TE) : TE := fun σ H Q => te σ H fun x H1 => (tPart tk) σ H1 fun z H2 => ∃ a xs k, x = .ref a ∧ z = some k ∧ k ≠ 0 ∧ SqL K H2 a xs ∧ ∀ p ys, H2 p = none → (∀ y ∈ ys, y ∈ xs) → ys.length ≤ xs.length → Q (.ref p) (upd H2 p (.lst ys))
theorem pick_mem {items : Array Value} {lo hi st : Option Int} {u : Value} (h : u ∈ (slicePick items lo hi st).toList) : u ∈ items.toList := by
  unfold slicePick at h
  simp only [List.mem_filterMap] at h
  obtain ⟨i, _, e⟩ := h
  exact Array.mem_toList_iff.mpr (Array.mem_of_getElem? e)
theorem pe_sliceStep {e st : Expr} {te tk : TE} {p3 pos : Pos} (he : PE X e te) (hk : PE X st tk) : PE X (.Subscript e (.Slice none none (some st) p3) pos) (tStepL X.K te tk) := by
  refine ⟨fun pins s σ H Q I h => ?_⟩
  refine Subscript_ (thn (he.run pins s σ H _ I h) fun v s1 ⟨x, H1, I1, r1, q1⟩ => ?_)
  refine wpAny_Slice (thn (po_none.run pins s1 σ H1 (fun o H2 => o = none ∧ H2 = H1) I1 ⟨rfl, rfl⟩) fun vl s2 ⟨l, H2, I2, pl, el, e2⟩ => ?_)
  subst el e2
  refine thn (po_none.run pins s2 σ H2 (fun o H3 => o = none ∧ H3 = H2) I2 ⟨rfl, rfl⟩) fun vu s3 ⟨u, H3, I3, pu, eu, e3⟩ => ?_
  subst eu e3
  refine thn ((po_some hk).run pins s3 σ H3 _ I3 q1) fun vs s4 ⟨o, H4, I4, ps, a, xs, k, ex, eo, k0, hx, q⟩ => ?_
  subst eo ex
  cases r1
  have I5 : Inv X pins σ H4 { s4 with heap := s4.heap.push { cls := .type "slice", data := .fields #[vl, vu, vs] } } := I4.kept (t' := s4.toks) fun b ob q => Heap.get?_push_of_some _ q
  obtain ⟨its, r, ht, hz⟩ := I5.list hx
  have hlen := r.length
  show wpAny (model X.prog X.w) X.A (subscriptTail e (.Slice none none (some st) p3) (.ref a) (.ref s4.heap.objs.size)) (EP X pins σ Q) X.xe { s4 with heap := s4.heap.push { cls := .type "slice", data := .fields #[vl, vu, vs] } }
  refine tail_any (ops := [.ref a, .ref s4.heap.objs.size]) ht.isList.typeIs (PySem.slot_list_getitem.lookup) ?_ (by with_unfolding_all rfl)
  refine wpAny_getItem_list_slice ht.isList (Heap.IsSliceOf.new _ vl vu vs) pl pu ps (by simpa using k0) ?_ (by rw [List.size_toArray]; omega)
  obtain ⟨ys, h1, h2⟩ := vals_sub (us := (slicePick its.toArray none none (some k)).toList) r (fun u hu => by simpa using pick_mem hu)
  have hle : ys.length ≤ xs.length := by
    rw [h1.length, hlen]
    have := slicePick_size_le its.toArray none none (some k)
    simpa using this
  refine ⟨.ref _, _, I5.laid (t' := s4.toks) (o := .lst ys) (fun b ob q => Heap.get?_push_of_some _ q) (Nat.le_refl _) ?_, rfl, q _ ys (I5.hok.fresh (Nat.le_refl _)) h2 hle⟩
  exact ⟨by omega, (slicePick its.toArray none none (some k)).toList, 0, h1, by rw [Array.toArray_toList]; exact Heap.get?_push_size _ rfl⟩
end
/-! ### xs.extend(a tuple) -/
section
variable {X : Cx}
theorem extend_tup (l : Addr) (items : Array Value) (n : Nat) (b : Addr) (items2 : Array Value) (n2 : Nat) (od : Option Addr) (sl : Array (Option Value)) (hs0 : ¬(!items.isEmpty && Builtin.List.listTooLong (items.size + items2.size)) = true) (hs1 : items.size ≤ sizeLine) (hs2 : items.size + items2.size ≤ sizeLine + 1) :
    Meets (Builtin.«list.extend» ⟨[.ref l, .ref b], []⟩) (fun _ R s => s.heap.get? l = some { cls := .type "list", dict := none, data := .seq items n, slots := #[] } ∧ s.heap.get? b = some { cls := .type "tuple", dict := od, data := .seq items2 n2, slots := sl } ∧ R (.ok (.ret Value.none)) { s with heap := s.heap.update l (Obj.mapSeq fun x => x ++ items2), toks := s.toks }) :=
  .of_wp fun prog w A R s h => by
    obtain ⟨hp, g, d, tk, os⟩ := s; obtain ⟨hl, hb, h⟩ := h; have f1 := AutoSeq1.idx_int; have f2 := AutoSeq1.sub_tuple_tuple; have f3 := AutoSeq1.sub_list_list; have f4 := AutoSeq1.sub_tuple_list; have f5 := AutoSeq1.sub_list_tuple;
    have hz' : (items ++ items2).size ≤ sizeLine + 1 := by rw [Array.size_append]; exact hs2
    wp_walk using (wpAny_updateSeq hl rfl (hz := hs1) (_hz' := hz')), wpAny_loadPart' hl, wpAny_loadPart' hb; exact ⟨_, rfl, h⟩
def rExtendT (K : PySem.W.Frag) : V → List V → Hp → VK → Prop := fun x vs H Q => ∃ l b xs zs, x = .ref l ∧ vs = [.ref b] ∧ H l = some (.lst xs) ∧ SqT K H b zs ∧ xs.length + zs.length ≤ sizeLine ∧ Q .non (upd H l (.lst (xs ++ zs)))
theorem mt_extendT : MtM X "list.extend" (rExtendT X.K) := by
  intro pins s σ H x vs v us Q I rx rv h
  obtain ⟨l, b, xs, zs, rfl, rfl, hH, hB, hz, q⟩ := h
  cases rx
  obtain ⟨u, rfl, ru⟩ := rv.one
  cases ru
  obtain ⟨z, its, n, r, hl, e⟩ := I.lstM hH
  obtain ⟨its2, r2, ⟨⟨oc, od, dt, sl⟩, e2, ec, n2, ed⟩, z2⟩ := I.tuple hB
  have hl2 := r2.length
  simp only at ec ed
  subst ec ed
  have hsz : its.toArray.size + its2.toArray.size ≤ sizeLine := by rw [List.size_toArray, List.size_toArray]; omega
  have hlong : ¬ (!its.toArray.isEmpty && Builtin.List.listTooLong (its.toArray.size + its2.toArray.size)) = true := by
    rw [notLongL hsz, Bool.and_false]
    exact Bool.false_ne_true
  refine call_meets PySem.F.slot_list_extend ⟨_, e, rfl⟩ PySem.F.entry_list_extend (PySem.F.args_list_extend_2 _ _)
    (extend_tup l its.toArray n b its2.toArray n2 od sl hlong (by rw [List.size_toArray]; omega) (by omega)) ⟨e, e2, ?_⟩
  refine ⟨.non, _, I.lset (its' := its ++ its2) hH e (by simp) (r.append r2) ?_, rfl, q⟩
  rw [List.length_append]
  omega
end

/-! ### rules with the written part told -/
abbrev rLen (K : PySem.W.Frag) : List V → Hp → VK → Prop := fun xs H Q => ∃ x n, xs = [x] ∧ LenV K x H n ∧ Q (.int n) H
abbrev rListK (K : PySem.W.Frag) : List V → Hp → VK → Prop := fun xs H Q => ∃ p ys, xs = [.ref p] ∧ (SqL K H p ys ∨ SqT K H p ys) ∧ ∀ l, H l = none → Q (.ref l) (upd H l (.lst ys))
abbrev rTupK (K : PySem.W.Frag) : List V → Hp → VK → Prop := fun xs H Q => ∃ p ys, xs = [.ref p] ∧ ((SqL K H p ys ∧ ∀ l, H l = none → Q (.ref l) (upd H l (.tup ys))) ∨ (SqT K H p ys ∧ Q (.ref p) H))
abbrev rJoinK (K : PySem.W.Frag) : V → List V → Hp → VK → Prop := fun x xs H Q => ∃ a p, ∃ ys : List Str, x = .str a ∧ xs = [.ref p] ∧ (SqL K H p (ys.map V.str) ∨ SqT K H p (ys.map V.str)) ∧ (ys.map (·.length)).sum + ys.length * a.length ≤ 16777216 ∧ Q (.str (Txt.join a ys)) H
theorem pe_joinK {X : Cx} {K : PySem.W.Frag} {o e : Expr} {to te : TE} {apos pos : Pos} (hK : X.K = K) (ho : PE X o to) (he : PE X e te) (hs : starEach [e] X.env = [(false, eval e X.env)] := by rfl) (hbase : attributeBase o "join" X.env (eval o X.env) = eval o X.env := by rfl) (hline : (apos.endLine == pos.line) = true := by rfl) :
    PE X (.Call (.Attribute o "join" apos) [e] [] pos) (tM1 (rJoinK K) to te) := by
  subst hK
  exact pe_join ho he hs hbase hline

theorem passT {X : Cx} {E : XK} (tk : Takes X (fun cls d _ H => E cls d H)) : Passes (L2.CX X.prog X.w) X E := passes_call tk fun _ _ _ _ h => h
end An

namespace An
open PySem L2
/-! ### the common row -/
def lcs : List Str → List Str → Nat
  | [], _ => 0
  | _ :: _, [] => 0
  | a :: as, b :: bs => if a = b then 1 + lcs as bs else max (lcs as (b :: bs)) (lcs (a :: as) bs)
termination_by as bs => as.length + bs.length
theorem lcs_nil_l (bs : List Str) : lcs [] bs = 0 := by rw [lcs]
theorem lcs_nil_r (as : List Str) : lcs as [] = 0 := by cases as <;> rw [lcs]
theorem lcs_cons (a b : Str) (as bs : List Str) : lcs (a :: as) (b :: bs) = if a = b then 1 + lcs as bs else max (lcs as (b :: bs)) (lcs (a :: as) bs) := by rw [lcs]
/-- the table's number -/
def lt (old new : List Str) (i k : Nat) : Nat := lcs (old.drop i) (new.drop k)
theorem lt_end_l {old new : List Str} {i k : Nat} (h : old.length ≤ i) : lt old new i k = 0 := by
  unfold lt; rw [List.drop_eq_nil_of_le h]; exact lcs_nil_l _
theorem lt_end_r {old new : List Str} {i k : Nat} (h : new.length ≤ k) : lt old new i k = 0 := by
  unfold lt; rw [List.drop_eq_nil_of_le h]; exact lcs_nil_r _
theorem lt_step {old new : List Str} {i k : Nat} {a b : Str} (ha : old[i]? = some a) (hb : new[k]? = some b) :
    lt old new i k = if a = b then 1 + lt old new (i + 1) (k + 1) else max (lt old new (i + 1) k) (lt old new i (k + 1)) := by
  obtain ⟨h1, e1⟩ := List.getElem?_eq_some_iff.mp ha
  obtain ⟨h2, e2⟩ := List.getElem?_eq_some_iff.mp hb
  unfold lt
  rw [List.drop_eq_getElem_cons h1, List.drop_eq_getElem_cons h2, lcs_cons, e1, e2]
/-! ### kept pairs -/
def kept (old new : List Str) : Nat → Nat → Nat → List (Nat × Nat)
  | 0, _, _ => []
  | f + 1, i, k => match old[i]?, new[k]? with
    | some a, some b => if a = b then (i, k) :: kept old new f (i + 1) (k + 1)
      else if lt old new i (k + 1) ≤ lt old new (i + 1) k then kept old new f (i + 1) k else kept old new f i (k + 1)
    | _, _ => []
theorem kept_at {old new : List Str} {f i k : Nat} {a b : Str} (ha : old[i]? = some a) (hb : new[k]? = some b) : kept old new (f + 1) i k = if a = b then (i, k) :: kept old new f (i + 1) (k + 1)
      else if lt old new i (k + 1) ≤ lt old new (i + 1) k then kept old new f (i + 1) k else kept old new f i (k + 1) := by
  rw [kept, ha, hb]
theorem kept_end {old new : List Str} {f i k : Nat} (h : ¬ (i < old.length ∧ k < new.length)) : kept old new f i k = [] := by
  cases f with
  | zero => rfl
  | succ f =>
    rw [kept]
    by_cases h1 : i < old.length
    · have h2 : new.length ≤ k := by omega
      rw [List.getElem?_eq_none_iff.mpr h2]
      cases old[i]? <;> rfl
    · rw [List.getElem?_eq_none_iff.mpr (by omega)]
def keptPairs (old new : List Str) : List (Nat × Nat) := kept old new (old.length + new.length) 0 0
/-- pairs that rise, of like lines -/
def Rise (old new : List Str) : Nat → Nat → List (Nat × Nat) → Prop
  | _, _, [] => True
  | i, k, p :: r => i ≤ p.1 ∧ k ≤ p.2 ∧ (∃ x, old[p.1]? = some x ∧ new[p.2]? = some x) ∧ Rise old new (p.1 + 1) (p.2 + 1) r
theorem Rise.lower {old new : List Str} {i k i' k' : Nat} (hi : i' ≤ i) (hk : k' ≤ k) : ∀ {l : List (Nat × Nat)}, Rise old new i k l → Rise old new i' k' l
  | [], _ => trivial
  | _ :: _, ⟨h1, h2, h3, h4⟩ => ⟨Nat.le_trans hi h1, Nat.le_trans hk h2, h3, h4⟩
theorem kept_rise (old new : List Str) : ∀ f i k, Rise old new i k (kept old new f i k)
  | 0, _, _ => trivial
  | f + 1, i, k => by
    by_cases h : i < old.length ∧ k < new.length
    · have ha : old[i]? = some old[i] := List.getElem?_eq_getElem h.1
      have hb : new[k]? = some new[k] := List.getElem?_eq_getElem h.2
      rw [kept_at ha hb]
      split
      · rename_i e
        exact ⟨Nat.le_refl _, Nat.le_refl _, ⟨old[i], ha, by rw [e]; exact hb⟩, kept_rise old new f (i + 1) (k + 1)⟩
      · split
        · exact (kept_rise old new f (i + 1) k).lower (Nat.le_succ _) (Nat.le_refl _)
        · exact (kept_rise old new f i (k + 1)).lower (Nat.le_refl _) (Nat.le_succ _)
    · rw [kept_end h]; trivial
theorem kept_len (old new : List Str) : ∀ f i k, (kept old new f i k).length ≤ f
  | 0, _, _ => Nat.le_refl _
  | f + 1, i, k => by
    by_cases h : i < old.length ∧ k < new.length
    · rw [kept_at (List.getElem?_eq_getElem h.1) (List.getElem?_eq_getElem h.2)]
      have a := kept_len old new f (i + 1) (k + 1)
      have b := kept_len old new f (i + 1) k
      have c := kept_len old new f i (k + 1)
      split
      · rw [List.length_cons]; omega
      · split <;> omega
    · rw [kept_end h]; exact Nat.zero_le _
/-! ### spans -/
abbrev Span := Nat × Nat × List Str
def seg {α : Type} (xs : List α) (a b : Nat) : List α := (xs.drop a).take (b - a)
theorem seg_all {α : Type} (xs : List α) {a b : Nat} (h : xs.length ≤ b) : seg xs a b = xs.drop a := by
  unfold seg; exact List.take_of_length_le (by rw [List.length_drop]; omega)
theorem seg_self {α : Type} (xs : List α) (a : Nat) : seg xs a a = [] := by unfold seg; rw [Nat.sub_self]; rfl
theorem seg_snoc {α : Type} {xs : List α} {a b : Nat} {x : α} (h : a ≤ b) (e : xs[b]? = some x) : seg xs a (b + 1) = seg xs a b ++ [x] := by
  unfold seg
  rw [show b + 1 - a = (b - a) + 1 by omega, List.take_succ, List.getElem?_drop, show a + (b - a) = b by omega, e]
  rfl
theorem seg_drop {α : Type} (xs : List α) {a b : Nat} (h : a ≤ b) : seg xs a b ++ xs.drop b = xs.drop a := by
  unfold seg
  have e : xs.drop b = (xs.drop a).drop (b - a) := by rw [List.drop_drop, show a + (b - a) = b by omega]
  rw [e, List.take_append_drop]
theorem seg_mem {α : Type} {xs : List α} {a b : Nat} {x : α} (h : x ∈ seg xs a b) : x ∈ xs := List.mem_of_mem_drop (List.mem_of_mem_take h)
def spansGo (new : List Str) : List (Nat × Nat) → Nat → Nat → List Span
  | [], _, _ => []
  | p :: r, low, first => if low < p.1 ∨ first < p.2 then (low, p.1, seg new first p.2) :: spansGo new r (p.1 + 1) (p.2 + 1) else spansGo new r (p.1 + 1) (p.2 + 1)
def spansOf (old new : List Str) : List Span := spansGo new (keptPairs old new ++ [(old.length, new.length)]) 0 0
def costOf (sp : List Span) : Nat := (sp.map fun s => 2 + s.2.2.length).sum
def patchGo (old : List Str) : List Span → Nat → List Str
  | [], done => old.drop done
  | s :: r, done => seg old done s.1 ++ s.2.2 ++ patchGo old r s.2.1
def SpOk (n : Nat) : List Span → Nat → Prop
  | [], _ => True
  | s :: r, least => least ≤ s.1 ∧ s.1 ≤ s.2.1 ∧ s.2.1 ≤ n ∧ ¬ (s.1 = s.2.1 ∧ s.2.2 = []) ∧ SpOk n r (s.2.1 + 1)
theorem rise_lt {old new : List Str} {p : Nat × Nat} (h : ∃ x, old[p.1]? = some x ∧ new[p.2]? = some x) : p.1 < old.length ∧ p.2 < new.length := by
  obtain ⟨x, h1, h2⟩ := h
  exact ⟨(List.getElem?_eq_some_iff.mp h1).1, (List.getElem?_eq_some_iff.mp h2).1⟩
theorem patch_go {old new : List Str} : ∀ {ps : List (Nat × Nat)} {low first done : Nat}, Rise old new low first ps → low ≤ old.length → first ≤ new.length → done ≤ low →
    patchGo old (spansGo new (ps ++ [(old.length, new.length)]) low first) done = seg old done low ++ new.drop first
  | [], low, first, done, _, h1, h2, h3 => by
    show patchGo old (if low < old.length ∨ first < new.length then [(low, old.length, seg new first new.length)] else []) done = _
    split
    · show seg old done low ++ seg new first new.length ++ old.drop old.length = _
      rw [List.drop_length, List.append_nil, seg_all new (Nat.le_refl _)]
    · rename_i h
      have e1 : low = old.length := by omega
      have e2 : first = new.length := by omega
      show old.drop done = _
      rw [e1, e2, List.drop_length, List.append_nil, seg_all old (Nat.le_refl _)]
  | p :: r, low, first, done, ⟨r1, r2, r3, r4⟩, h1, h2, h3 => by
    obtain ⟨l1, l2⟩ := rise_lt r3
    obtain ⟨x, x1, x2⟩ := r3
    have en : new.drop p.2 = x :: new.drop (p.2 + 1) := by
      obtain ⟨q, e⟩ := List.getElem?_eq_some_iff.mp x2
      rw [List.drop_eq_getElem_cons q, e]
    show patchGo old (if low < p.1 ∨ first < p.2 then (low, p.1, seg new first p.2) :: spansGo new (r ++ [(old.length, new.length)]) (p.1 + 1) (p.2 + 1) else spansGo new (r ++ [(old.length, new.length)]) (p.1 + 1) (p.2 + 1)) done = _
    split
    · show seg old done low ++ seg new first p.2 ++ patchGo old (spansGo new (r ++ [(old.length, new.length)]) (p.1 + 1) (p.2 + 1)) p.1 = _
      rw [patch_go r4 (by omega) (by omega) (Nat.le_succ _), seg_snoc (Nat.le_refl _) x1, seg_self, List.nil_append, List.append_assoc]
      congr 1
      rw [List.singleton_append, ← en, seg_drop new r2]
    · rename_i h
      have e1 : low = p.1 := by omega
      have e2 : first = p.2 := by omega
      rw [patch_go r4 (by omega) (by omega) (by omega), seg_snoc (by omega) x1, List.append_assoc, e1, e2]
      congr 1
      rw [List.singleton_append, ← en]
theorem patched_spans (old new : List Str) : patchGo old (spansOf old new) 0 = new := by
  have h := patch_go (ps := keptPairs old new) (done := 0) (kept_rise old new _ 0 0) (Nat.zero_le _) (Nat.zero_le _) (Nat.le_refl _)
  rw [seg_self] at h
  exact h
theorem spans_ok {old new : List Str} : ∀ {ps : List (Nat × Nat)} {low first least : Nat}, Rise old new low first ps → low ≤ old.length → first ≤ new.length → least ≤ low →
    SpOk old.length (spansGo new (ps ++ [(old.length, new.length)]) low first) least
  | [], low, first, least, _, h1, h2, h3 => by
    show SpOk old.length (if low < old.length ∨ first < new.length then [(low, old.length, seg new first new.length)] else []) least
    split
    · rename_i h
      refine ⟨h3, h1, Nat.le_refl _, ?_, trivial⟩
      rintro ⟨e1, e2⟩
      have e1' : low = old.length := e1
      have e3 : (seg new first new.length).length = 0 := by rw [show seg new first new.length = [] from e2]; rfl
      rw [seg_all new (Nat.le_refl _), List.length_drop] at e3
      omega
    · trivial
  | p :: r, low, first, least, ⟨r1, r2, r3, r4⟩, h1, h2, h3 => by
    obtain ⟨l1, l2⟩ := rise_lt r3
    show SpOk old.length (if low < p.1 ∨ first < p.2 then (low, p.1, seg new first p.2) :: spansGo new (r ++ [(old.length, new.length)]) (p.1 + 1) (p.2 + 1) else spansGo new (r ++ [(old.length, new.length)]) (p.1 + 1) (p.2 + 1)) least
    split
    · rename_i h
      refine ⟨h3, r1, by show p.1 ≤ old.length; omega, ?_, spans_ok r4 (by omega) (by omega) (Nat.le_refl _)⟩
      rintro ⟨e1, e2⟩
      have e1' : low = p.1 := e1
      have e3 : (seg new first p.2).length = 0 := by rw [show seg new first p.2 = [] from e2]; rfl
      unfold seg at e3
      rw [List.length_take, List.length_drop] at e3
      omega
    · exact spans_ok r4 (by omega) (by omega) (by omega)
theorem spansOf_ok (old new : List Str) : SpOk old.length (spansOf old new) 0 := spans_ok (kept_rise old new _ 0 0) (Nat.zero_le _) (Nat.zero_le _) (Nat.le_refl _)
theorem spansGo_mem {new : List Str} : ∀ {ps : List (Nat × Nat)} {low first : Nat} {s : Span}, s ∈ spansGo new ps low first → ∀ l ∈ s.2.2, l ∈ new
  | [], _, _, _, h, _, _ => by cases h
  | p :: r, low, first, s, h, l, hl => by
    rw [spansGo] at h
    split at h
    · rcases List.mem_cons.mp h with e | h
      · rw [e] at hl; exact seg_mem hl
      · exact spansGo_mem h l hl
    · exact spansGo_mem h l hl
theorem spansOf_mem {old new : List Str} {s : Span} (h : s ∈ spansOf old new) : ∀ l ∈ s.2.2, l ∈ new := spansGo_mem h
theorem spansGo_len {new : List Str} : ∀ {ps : List (Nat × Nat)} {low first : Nat}, (spansGo new ps low first).length ≤ ps.length
  | [], _, _ => Nat.le_refl _
  | p :: r, low, first => by
    rw [spansGo]
    have h := spansGo_len (new := new) (ps := r) (low := p.1 + 1) (first := p.2 + 1)
    split
    · rw [List.length_cons, List.length_cons]; omega
    · rw [List.length_cons]; omega
theorem spansOf_len (old new : List Str) : (spansOf old new).length ≤ old.length + new.length + 1 := by
  unfold spansOf
  refine Nat.le_trans spansGo_len ?_
  rw [List.length_append]
  have := kept_len old new (old.length + new.length) 0 0
  show (kept old new _ 0 0).length + 1 ≤ _
  omega
end An

namespace An
open PySem L2
/-! ### contents -/
abbrev Cont := List (Str × Thing)
def nms (L : Cont) : List Str := L.map (·.1)
def Thing.names : Thing → List Str
  | .leaf _ => []
  | .tree rows => rows.map (·.2)
  | .note t ps _ => t :: ps
def Thing.lines : Thing → List Str
  | .leaf ls => ls
  | _ => []
def Thing.isLeaf : Thing → Bool
  | .leaf _ => true
  | _ => false
/-- the names within stand ahead -/
def Kb (L : Cont) : Prop := ∀ pre e post, L = pre ++ e :: post → ∀ c ∈ e.2.names, c ∈ nms pre
theorem nms_append (a b : Cont) : nms (a ++ b) = nms a ++ nms b := List.map_append ..
theorem mem_nms {L : Cont} {n : Str} (h : n ∈ nms L) : ∃ t, (n, t) ∈ L := by
  obtain ⟨e, he, rfl⟩ := List.mem_map.mp h
  exact ⟨e.2, he⟩
theorem nms_mem {L : Cont} {n : Str} {t : Thing} (h : (n, t) ∈ L) : n ∈ nms L := List.mem_map.mpr ⟨(n, t), h, rfl⟩
theorem thing_uniq {L : Cont} (nd : (nms L).Nodup) {n : Str} {t u : Thing} (h : (n, t) ∈ L) (g : (n, u) ∈ L) : t = u := by
  obtain ⟨i, hi⟩ := List.mem_iff_getElem?.mp h
  obtain ⟨j, hj⟩ := List.mem_iff_getElem?.mp g
  have h1 : (nms L)[i]? = some n := by unfold nms; rw [List.getElem?_map, hi]; rfl
  have h2 : (nms L)[j]? = some n := by unfold nms; rw [List.getElem?_map, hj]; rfl
  have e : i = j := nodup_ix nd h1 h2
  subst e
  rw [hi] at hj
  exact (Prod.mk.inj (Option.some.inj hj)).2
theorem Kb.mem {L : Cont} (k : Kb L) {e : Str × Thing} (h : e ∈ L) : ∀ c ∈ e.2.names, c ∈ nms L := fun c hc => by
  obtain ⟨pre, post, rfl⟩ := List.append_of_mem h
  have := k pre e post rfl c hc
  rw [nms_append]
  exact List.mem_append_left _ this
theorem Kb.nil : Kb [] := fun pre e post h => by cases pre <;> cases h
theorem Kb.snoc {L : Cont} (k : Kb L) {e : Str × Thing} (h : ∀ c ∈ e.2.names, c ∈ nms L) : Kb (L ++ [e]) := by
  intro pre e' post hh c hc
  rcases List.append_eq_append_iff.mp hh with ⟨as, h1, h2⟩ | ⟨bs, h1, h2⟩
  · cases as with
    | nil =>
      simp only [List.nil_append, List.cons.injEq] at h2
      rw [List.append_nil] at h1
      rw [h1]
      rw [← h2.1] at hc
      exact h c hc
    | cons a as => cases as <;> simp at h2
  · cases bs with
    | nil =>
      simp only [List.nil_append, List.cons.injEq] at h2
      rw [List.append_nil] at h1
      rw [← h1]
      rw [h2.1] at hc
      exact h c hc
    | cons b bs =>
      simp only [List.cons_append, List.cons.injEq] at h2
      obtain ⟨rfl, h3⟩ := h2
      exact k pre _ _ h1 c hc
/-! ### what is reached -/
inductive Reach (L : Cont) (roots : List Str) : Str → Prop where
  | root {n : Str} (h : n ∈ roots) : Reach L roots n
  | kid {n c : Str} {t : Thing} (h : Reach L roots n) (m : (n, t) ∈ L) (hc : c ∈ t.names) : Reach L roots c
open Classical in
noncomputable def sub (L : Cont) (roots : List Str) : Cont := L.filter fun e => decide (Reach L roots e.1)
theorem mem_sub {L : Cont} {roots : List Str} {e : Str × Thing} : e ∈ sub L roots ↔ e ∈ L ∧ Reach L roots e.1 := by
  unfold sub; rw [List.mem_filter]; simp
theorem sub_all {L : Cont} : sub L (nms L) = L := by
  unfold sub
  refine List.filter_eq_self.mpr fun e he => ?_
  simp only [decide_eq_true_eq]
  exact .root (nms_mem (t := e.2) he)
theorem reach_in {L : Cont} {roots : List Str} (k : Kb L) (hr : ∀ n ∈ roots, n ∈ nms L) {n : Str} (h : Reach L roots n) : n ∈ nms L := by
  induction h with
  | root h => exact hr _ h
  | kid h m hc ih => exact k.mem m _ hc
theorem reach_sub {L : Cont} {roots : List Str} {n : Str} (h : Reach L roots n) : Reach (sub L roots) roots n := by
  induction h with
  | root h => exact .root h
  | kid h m hc ih => exact .kid ih (mem_sub.mpr ⟨m, h⟩) hc
theorem sub_sub (L : Cont) (roots : List Str) : sub (sub L roots) roots = sub L roots := by
  have e : sub (sub L roots) roots = (sub L roots).filter (fun _ => true) := by
    rw [show sub (sub L roots) roots = (sub L roots).filter (fun e => @decide (Reach (sub L roots) roots e.1) (Classical.propDecidable _)) from rfl]
    refine List.filter_congr fun e he => ?_
    simp only [decide_eq_true_eq]
    exact reach_sub (mem_sub.mp he).2
  rw [e]
  exact List.filter_eq_self.mpr fun _ _ => rfl
theorem Kb.sub {L : Cont} (k : Kb L) (nd : (nms L).Nodup) (roots : List Str) : Kb (sub L roots) := by
  intro pre e post h c hc
  have he : e ∈ An.sub L roots := by rw [h]; exact List.mem_append_right _ List.mem_cons_self
  obtain ⟨h1, h2⟩ := mem_sub.mp he
  have hrc : Reach L roots c := .kid h2 (t := e.2) h1 hc
  unfold An.sub at h
  obtain ⟨l1, l2, e1, e2, e3⟩ := List.filter_eq_append_iff.mp h
  obtain ⟨l3, l4, e4, e5, e6, e7⟩ := List.filter_eq_cons_iff.mp e3
  subst e4
  have e8 : L = (l1 ++ l3) ++ e :: l4 := by rw [e1, List.append_assoc]
  have m := k _ _ _ e8 c hc
  have hpre : pre = (l1 ++ l3).filter fun e => @decide (Reach L roots e.1) (Classical.propDecidable _) := by
    rw [List.filter_append, ← e2, List.filter_eq_nil_iff.mpr e5, List.append_nil]
  rw [hpre]
  obtain ⟨t, ht⟩ := mem_nms m
  refine nms_mem (t := t) (List.mem_filter.mpr ⟨ht, ?_⟩)
  simpa using hrc
theorem nd_sub {L : Cont} (nd : (nms L).Nodup) (roots : List Str) : (nms (sub L roots)).Nodup := by
  unfold nms sub
  exact List.Nodup.sublist (List.Sublist.map _ List.filter_sublist) nd
theorem nms_sub (L : Cont) (roots : List Str) (p : Str → Bool) (h : ∀ n ∈ nms L, p n = true ↔ Reach L roots n) : (nms L).filter p = nms (sub L roots) := by
  unfold nms sub
  rw [List.filter_map]
  congr 1
  refine List.filter_congr fun e he => ?_
  have := h e.1 (nms_mem (t := e.2) he)
  by_cases c : Reach L roots e.1
  · simp only [Function.comp_apply, this.mpr c, c, decide_true]
  · have hp : p e.1 = false := by
      cases q : p e.1 with
      | false => rfl
      | true => exact absurd (this.mp q) c
    simp only [Function.comp_apply, hp, c, decide_false]
/-! ### the plan -/
structure PEnt where
  name : Str
  thing : Thing
  steps : Nat
  via : Option (Str × List Span)
def better (new : List Str) (acc : Option (PEnt × List Span)) (p : PEnt) : Option (PEnt × List Span) :=
  if p.steps < 4 then (match acc with
    | none => some (p, spansOf p.thing.lines new)
    | some (b, sp) => if costOf (spansOf p.thing.lines new) ≤ costOf sp then some (p, spansOf p.thing.lines new) else some (b, sp)) else acc
def best (new : List Str) (ps : List PEnt) : Option (PEnt × List Span) := ps.foldl (better new) none
def lvs (ps : List PEnt) : List PEnt := ps.filter fun p => p.thing.isLeaf
def planLeaf (ps : List PEnt) (n : Str) (ls : List Str) : PEnt := match best ls (lvs ps) with
  | some (b, sp) => if costOf sp < ls.length then ⟨n, .leaf ls, b.steps + 1, some (b.name, sp)⟩ else ⟨n, .leaf ls, 0, none⟩
  | none => ⟨n, .leaf ls, 0, none⟩
def planOne (ps : List PEnt) (e : Str × Thing) : PEnt := match e.2 with
  | .leaf ls => planLeaf ps e.1 ls
  | t => ⟨e.1, t, 0, none⟩
def planAll (L : Cont) : List PEnt := L.foldl (fun ps e => ps ++ [planOne ps e]) []
theorem planAll_snoc (L : Cont) (e : Str × Thing) : planAll (L ++ [e]) = planAll L ++ [planOne (planAll L) e] := by
  unfold planAll; rw [List.foldl_append]; rfl
theorem planLeaf_name (ps : List PEnt) (n : Str) (ls : List Str) : (planLeaf ps n ls).name = n ∧ (planLeaf ps n ls).thing = .leaf ls := by
  unfold planLeaf
  split
  · split <;> exact ⟨rfl, rfl⟩
  · exact ⟨rfl, rfl⟩
theorem planOne_name (ps : List PEnt) (e : Str × Thing) : ((planOne ps e).name, (planOne ps e).thing) = e := by
  obtain ⟨n, t⟩ := e
  cases t with
  | leaf ls => obtain ⟨h1, h2⟩ := planLeaf_name ps n ls; show ((planLeaf ps n ls).name, (planLeaf ps n ls).thing) = _; rw [h1, h2]
  | tree rows => rfl
  | note a b c => rfl
theorem rev_ind {α : Type} {P : List α → Prop} (h0 : P []) (h1 : ∀ l x, P l → P (l ++ [x])) (l : List α) : P l := by
  have h : ∀ k : List α, P k.reverse := by
    intro k
    induction k with
    | nil => exact h0
    | cons a k ih => rw [List.reverse_cons]; exact h1 _ _ ih
  have := h l.reverse
  rwa [List.reverse_reverse] at this
theorem planAll_map (L : Cont) : (planAll L).map (fun p => (p.name, p.thing)) = L := by
  refine rev_ind (P := fun L => (planAll L).map (fun p => (p.name, p.thing)) = L) rfl (fun l x ih => ?_) L
  rw [planAll_snoc, List.map_append, ih]
  show l ++ [((planOne (planAll l) x).name, (planOne (planAll l) x).thing)] = _
  rw [planOne_name]
theorem planAll_names (L : Cont) : (planAll L).map (·.name) = nms L := by
  have h := congrArg (List.map Prod.fst) (planAll_map L)
  rw [List.map_map] at h
  exact h
/-- the base of spans is one of those ahead -/
theorem best_mem {new : List Str} {ps : List PEnt} {b : PEnt} {sp : List Span} (h : best new ps = some (b, sp)) : b ∈ ps ∧ b.steps < 4 ∧ sp = spansOf b.thing.lines new := by
  revert b sp
  refine rev_ind (P := fun ps => ∀ {b : PEnt} {sp : List Span}, best new ps = some (b, sp) → b ∈ ps ∧ b.steps < 4 ∧ sp = spansOf b.thing.lines new) ?_ ?_ ps
  · intro b sp h; cases h
  · intro l p ih b sp h
    have e : best new (l ++ [p]) = better new (best new l) p := by unfold best; rw [List.foldl_append]; rfl
    rw [e] at h
    unfold better at h
    have up : ∀ {b : PEnt} {sp : List Span}, best new l = some (b, sp) → b ∈ l ++ [p] ∧ b.steps < 4 ∧ sp = spansOf b.thing.lines new := fun z =>
      let ⟨a, c, d⟩ := ih z
      ⟨List.mem_append_left _ a, c, d⟩
    split at h
    · rename_i c
      split at h
      · cases h
        exact ⟨List.mem_append_right _ List.mem_cons_self, c, rfl⟩
      · split at h
        · cases h
          exact ⟨List.mem_append_right _ List.mem_cons_self, c, rfl⟩
        · rename_i b' sp' q _
          cases h
          exact up q
    · exact up h
/-- how an entry is kept -/
def EntOk (pre : List PEnt) (e : PEnt) : Prop := match e.via with
  | none => e.steps = 0
  | some (b, sp) => ∃ p ∈ pre, p.name = b ∧ p.thing.isLeaf = true ∧ e.thing.isLeaf = true ∧ p.steps + 1 = e.steps ∧ e.steps ≤ 4 ∧ sp = spansOf p.thing.lines e.thing.lines
theorem planOne_ok (ps : List PEnt) (e : Str × Thing) : EntOk ps (planOne ps e) := by
  obtain ⟨n, t⟩ := e
  cases t with
  | leaf ls =>
    show EntOk ps (planLeaf ps n ls)
    unfold planLeaf
    split
    · rename_i b sp hb
      split
      · obtain ⟨h1, h2, h3⟩ := best_mem hb
        obtain ⟨h4, h5⟩ := List.mem_filter.mp h1
        exact ⟨b, h4, rfl, h5, rfl, rfl, h2, h3⟩
      · exact rfl
    · exact rfl
  | tree rows => exact rfl
  | note a b c => exact rfl
theorem planAll_ok (L : Cont) : ∀ pre e post, planAll L = pre ++ e :: post → EntOk pre e := by
  refine rev_ind (P := fun L => ∀ pre e post, planAll L = pre ++ e :: post → EntOk pre e) (fun pre e post h => by cases pre <;> cases h) (fun l x ih pre e post hh => ?_) L
  rw [planAll_snoc] at hh
  rcases List.append_eq_append_iff.mp hh with ⟨as, h1, h2⟩ | ⟨bs, h1, h2⟩
  · cases as with
    | nil =>
      simp only [List.nil_append, List.cons.injEq] at h2
      rw [List.append_nil] at h1
      rw [h1, ← h2.1]
      exact planOne_ok _ _
    | cons a as => cases as <;> simp at h2
  · cases bs with
    | nil =>
      simp only [List.nil_append, List.cons.injEq] at h2
      rw [List.append_nil] at h1
      rw [← h1, h2.1]
      exact planOne_ok _ _
    | cons b bs =>
      simp only [List.cons_append, List.cons.injEq] at h2
      obtain ⟨rfl, h3⟩ := h2
      exact ih pre _ _ h1
def entW (p : PEnt) : Nat := match p.via with
  | some (_, sp) => costOf sp
  | none => p.thing.lines.length
def wtOf (ps : List PEnt) : Nat := (ps.map entW).sum
theorem wtOf_snoc (ps : List PEnt) (p : PEnt) : wtOf (ps ++ [p]) = wtOf ps + entW p := by
  unfold wtOf; rw [List.map_append, List.sum_append]; simp
def whole (p : PEnt) : Bool := p.via.isNone
theorem wt_split (ps : List PEnt) : ((ps.filter whole).map fun p => p.thing.lines.length).sum + ((ps.filter fun p => !whole p).map entW).sum = wtOf ps := by
  induction ps with
  | nil => rfl
  | cons p r ih =>
    unfold wtOf at ih ⊢
    rw [List.filter_cons, List.filter_cons, List.map_cons, List.sum_cons]
    cases h : whole p with
    | true =>
      have e : entW p = p.thing.lines.length := by
        unfold whole at h
        unfold entW
        rw [Option.isNone_iff_eq_none.mp h]
      simp only [if_true, Bool.not_true, Bool.false_eq_true, if_false, List.map_cons, List.sum_cons]
      omega
    | false =>
      simp only [Bool.false_eq_true, if_false, Bool.not_false, if_true, List.map_cons, List.sum_cons]
      omega
end An

namespace An
open PySem PySem.Spec L2
/-! ### good things -/
def LineOk (z : Str) : Prop := z.length ≤ 20 ∧ ∀ c ∈ z.cps.toList, 32 ≤ c ∧ c ≤ 126 ∧ c ≠ 37
def LabelOk (z : Str) : Prop := 1 ≤ z.length ∧ z.length ≤ 8 ∧ ∀ c ∈ z.cps.toList, 97 ≤ c ∧ c ≤ 122
theorem le_line {n : Nat} (h : n ≤ 100000) : n ≤ sizeLine := Nat.le_trans h (by decide)
theorem lt_line {n : Nat} (h : n < 100000) : n < sizeLine := Nat.lt_of_lt_of_le h (by decide)
theorem itep {c A B : Prop} [Decidable c] (h : c) (a : A) : if c then A else B := by rw [if_pos h]; exact a
theorem iten {c A B : Prop} [Decidable c] (h : ¬ c) (b : B) : if c then A else B := by rw [if_neg h]; exact b
theorem map_get {α β : Type} {f : α → β} {l : List α} {i : Nat} {x : β} (h : (l.map f)[i]? = some x) : ∃ y, l[i]? = some y ∧ x = f y := by
  rw [List.getElem?_map] at h
  obtain ⟨y, h1, h2⟩ := Option.map_eq_some_iff.mp h
  exact ⟨y, h1, h2.symm⟩
theorem lsm {H H' : Hp} (s : Same H H') {a : Addr} {ls : List Str} (h : LsAt H a ls) : LsAt H' a ls := s _ _ h
theorem log_small {i : Int} (h0 : 0 ≤ i) (h : i < 100000) : i.natAbs.log2 < 1920 := by
  have h1 : i.natAbs < 2 ^ 17 := by have : (2 : Nat) ^ 17 = 131072 := by decide
                                    omega
  by_cases z : i.natAbs = 0
  · rw [z]; decide
  · have := (Nat.log2_lt z).mpr h1
    omega
theorem num_len {n : Nat} (h : n < 100000) : (Str.ofString (toString ((n : Nat) : Int))).length ≤ 5 := by
  have e := TL.numL_len (n := n) (k := 5) (by decide) (by omega)
  rw [← TL.tl_num] at e
  exact e
theorem len_app (a b : Str) : (a ++ b).length = a.length + b.length := by
  show (a.cps ++ b.cps).size = _
  rw [Array.size_append]; rfl
/-- the list of n Trues -/
def trues (n : Nat) : List Bool := List.replicate n true
theorem trues_all (n : Nat) : (trues n).all id = true := by unfold trues; simp
theorem trues_snoc (n : Nat) : (trues n).map V.bl ++ [V.bl true] = (trues (n + 1)).map V.bl := by
  unfold trues
  rw [List.replicate_succ', List.map_append]; rfl
theorem trues_len (n : Nat) : ((trues n).map V.bl).length = n := by unfold trues; simp
section
variable {P : Program} {w : World} {K : PySem.W.Frag} {mg : Str → Option Value} {base : Heap}
/-! ### is_line -/
def spLine : Sp := fun vs H Q _ => ∃ z : Str, vs = [.str z] ∧ LineOk z ∧ ∀ H', Same H H' → Q (.bl true) H'
theorem sc_is_line : FnScope ["thing", "sign"] ["thing"] (defScope s_is_line) := ⟨rfl, rfl, rfl, by decide +kernel, rfl, by decide +kernel, by decide +kernel⟩
theorem ok_is_line (T : Tx K mg) : Gf P w K mg base CX0 1 (He.ga K "is_line") ["thing"] spLine := by
  refine gf0_of T.d_is_line sc_is_line (fun _ _ _ _ _ _ us hl => match us, hl with | [_], _ => rfl) (fun vs H Q E h => ?_) (fun cdv A outer s H vs Q E hr h => ?_)
  · obtain ⟨z, rfl, _⟩ := h; rfl
  · obtain ⟨z, rfl, ⟨hz, hc⟩, k⟩ := h
    refine ⟨_, pss_cons (ps_if (PW.pt (pw_or (pt_not (pt_val (pe_callB (r := rIsi K) call_isi rfl T.n_isinstance (by decide +kernel) (pa_cons (pv 0) (pa_cons (pe_tyv "str" T.n_str) pa_nil))))) (pw_or1 (pt_cmpR op_gt (pe_callB (r := rLen K) call_len rfl T.n_len (by decide +kernel) (pa_cons (pv 0) pa_nil)) (pe_gv T.i_MOST_SIGNS) (nomark _)))))
        (pss_one (ps_ret pe_bl))
        (pss_nil))
      (pss_one (ps_ret (pe_callB (r := rAll K) (cr_all rfl) rfl T.n_all (by decide +kernel) (pa_cons (pe_lc (own := [("sign", 1)]) (g := gName 1) rfl sc_is_line.nd (pi_str (pv 0)) (blkOk_by (own := [("sign", 1)]) (N := ["thing", "sign"]) (sc := defScope s_is_line) (by decide +kernel)) (fun _ _ _ _ _ => pg_name (i := 1) sc_is_line.nd rfl (Or.inl rfl)) (fun _ _ _ _ _ => pts_nil) (fun _ _ _ _ _ => (pe_and (pe_chain op_le op_le pe_int (pe_callB call_ord rfl T.n_ord (by decide +kernel) (pa_cons (pv 1) pa_nil)) pe_int) (pe_one (pe_cmpR op_ne (pe_callB call_ord rfl T.n_ord (by decide +kernel) (pa_cons (pv 1) pa_nil)) (pe_gv T.i_PERCENT) (nomark _)))))) pa_nil)))), ?_⟩
    refine ⟨_, rfl, _, _, _, _, _, rfl, .ty _, .base (.str _), kit_ty ki_ss, true, rfl, ?_⟩
    refine ⟨_, rfl, _, _, rfl, ⟨le_line (by omega), rfl⟩, _, _, rfl, rfl, _, rfl, ?_⟩
    refine ite2 (fun c => absurd c (by simp; omega)) (fun _ => ?_)
    refine ⟨_, rfl, z, rfl, fun D hD => lc_it walk_str (fun i H' => Same H H' ∧ H' D = some (.lst ((trues i).map V.bl))) ⟨same_new hD, upd_same⟩ (fun _ _ _ _ => trivial) ?_ ?_⟩
    · rintro i x H1 H2 hi ⟨hs, hd⟩ ⟨rfl, c, hc1, rfl⟩
      have hcm : c ∈ z.cps.toList := by rw [← Array.mem_toList_iff.symm]; exact Array.mem_of_getElem? hc1
      obtain ⟨c1, c2, c3⟩ := hc c hcm
      refine ⟨rfl, ?_⟩
      refine ⟨_, rfl, _, rfl, rfl, _, _, rfl, rfl, _, rfl, ?_⟩
      refine itep (decide_eq_true (show (32 : Int) ≤ ((c : Nat) : Int) by omega)) ?_
      refine ⟨_, _, rfl, rfl, _, rfl, ?_⟩
      refine itep (decide_eq_true (show ((c : Nat) : Int) ≤ 126 by omega)) ?_
      refine ⟨_, rfl, _, rfl, rfl, rfl, ?_⟩
      have e : (!decide (V.int ((c : Nat) : Int) = V.int 37)) = true := by
        simp only [V.int.injEq, Bool.not_eq_true', decide_eq_false_iff_not]; omega
      refine ⟨_, hd, by rw [trues_len]; exact lt_line (by have : z.length = z.cps.size := rfl; omega), Same.mut hs hD, ?_⟩
      rw [upd_same, ← trues_snoc, ← e]
      rfl
    · rintro H2 ⟨hs, hd⟩
      refine ⟨D, trues z.cps.size, rfl, SqL.of hd, ?_⟩
      rw [trues_all]
      exact k H2 hs

/-! ### is_lines -/
def spLines : Sp := fun vs H Q _ => ∃ (a : Addr) (ls : List Str), vs = [.ref a] ∧ LsAt H a ls ∧ (∀ l ∈ ls, LineOk l) ∧ ls.length ≤ 10000 ∧ ∀ H', Same H H' → Q (.bl true) H'
theorem sc_is_lines : FnScope ["thing", "line"] ["thing"] (defScope s_is_lines) := ⟨rfl, rfl, rfl, by decide +kernel, rfl, by decide +kernel, by decide +kernel⟩
theorem ok_is_lines (T : Tx K mg) : Gf P w K mg base CX0 2 (He.ga K "is_lines") ["thing"] spLines := by
  have G_is_line : Gf P w K mg base CX0 1 _ _ spLine := ok_is_line T
  refine gf0_of T.d_is_lines sc_is_lines (fun _ _ _ _ _ _ us hl => match us, hl with | [_], _ => rfl) (fun vs H Q E h => ?_) (fun cdv A outer s H vs Q E hr h => ?_)
  · obtain ⟨a, ls, rfl, _⟩ := h; rfl
  · obtain ⟨a, ls, rfl, hl, ho, hn, k⟩ := h
    refine ⟨_, pss_one (ps_ret (pe_and (pe_callB (r := rIsi K) call_isi rfl T.n_isinstance (by decide +kernel) (pa_cons (pv 0) (pa_cons (pe_tyv "tuple" T.n_tuple) pa_nil))) (pe_one (pe_callB (r := rAll K) (cr_all rfl) rfl T.n_all (by decide +kernel) (pa_cons (pe_lc (own := [("line", 1)]) (g := gName 1) rfl sc_is_lines.nd (pi_tup (pv 0)) (blkOk_by (own := [("line", 1)]) (N := ["thing", "line"]) (sc := defScope s_is_lines) (by decide +kernel)) (fun _ _ _ _ _ => pg_name (i := 1) sc_is_lines.nd rfl (Or.inl rfl)) (fun _ _ _ _ _ => pts_nil) (fun _ _ _ _ _ => (pe_fn G_is_line (hr.mono (by decide)) T.g_is_line pass0 (pa_cons (pv 1) pa_nil)))) pa_nil))))), ?_⟩
    refine ⟨_, rfl, _, _, _, _, _, rfl, .ty _, .base (.tup hl), kit_ty ki_tt, true, rfl, ?_⟩
    refine ⟨_, rfl, a, rfl, ⟨_, SqT.of hl⟩, fun D hD => lc_it walk_tup (fun i H' => Same H H' ∧ H' D = some (.lst ((trues i).map V.bl))) ⟨same_new hD, upd_same⟩ (fun _ _ _ p => SqT.of (lsm p.1 hl)) ?_ ?_⟩
    · rintro i x H1 H2 hi ⟨hs, hd⟩ ⟨rfl, hx⟩
      obtain ⟨z, hz, rfl⟩ := map_get hx
      rw [List.length_map] at hi
      refine ⟨rfl, ?_⟩
      refine ⟨_, rfl, z, rfl, ho z (List.mem_of_getElem? hz), fun H3 s3 => ?_⟩
      refine ⟨_, s3 _ _ hd, by rw [trues_len]; exact lt_line (by omega), Same.mut (hs.trans s3) hD, ?_⟩
      rw [upd_same, ← trues_snoc]
    · rintro H2 ⟨hs, hd⟩
      refine ⟨D, trues (ls.map V.str).length, rfl, SqL.of hd, ?_⟩
      rw [trues_all]
      exact k H2 hs
/-! ### is_label -/
theorem nlt_one {a b : Nat} (h : a ≤ b) : (!decide (([b] : List Nat) < [a])) = true := by
  rw [Bool.not_eq_true', decide_eq_false_iff_not]
  intro hh
  cases hh with
  | rel h' => omega
  | cons h' => cases h'
def spLabel : Sp := fun vs H Q _ => ∃ z : Str, vs = [.str z] ∧ LabelOk z ∧ ∀ H', Same H H' → Q (.bl true) H'
theorem sc_is_label : FnScope ["thing", "sign"] ["thing"] (defScope s_is_label) := ⟨rfl, rfl, rfl, by decide +kernel, rfl, by decide +kernel, by decide +kernel⟩
theorem ok_is_label (T : Tx K mg) : Gf P w K mg base CX0 1 (He.ga K "is_label") ["thing"] spLabel := by
  refine gf0_of T.d_is_label sc_is_label (fun _ _ _ _ _ _ us hl => match us, hl with | [_], _ => rfl) (fun vs H Q E h => ?_) (fun cdv A outer s H vs Q E hr h => ?_)
  · obtain ⟨z, rfl, _⟩ := h; rfl
  · obtain ⟨z, rfl, ⟨h1, h8, hc⟩, k⟩ := h
    refine ⟨_, pss_cons (ps_if (PW.pt (pw_or (pt_not (pt_val (pe_callB (r := rIsi K) call_isi rfl T.n_isinstance (by decide +kernel) (pa_cons (pv 0) (pa_cons (pe_tyv "str" T.n_str) pa_nil))))) (pw_or1 (pt_not (pt_chain op_le op_le pe_int (pe_callB (r := rLen K) call_len rfl T.n_len (by decide +kernel) (pa_cons (pv 0) pa_nil)) (pe_gv T.i_MOST_LETTERS))))))
        (pss_one (ps_ret pe_bl))
        (pss_nil))
      (pss_one (ps_ret (pe_callB (r := rAll K) (cr_all rfl) rfl T.n_all (by decide +kernel) (pa_cons (pe_lc (own := [("sign", 1)]) (g := gName 1) rfl sc_is_label.nd (pi_str (pv 0)) (blkOk_by (own := [("sign", 1)]) (N := ["thing", "sign"]) (sc := defScope s_is_label) (by decide +kernel)) (fun _ _ _ _ _ => pg_name (i := 1) sc_is_label.nd rfl (Or.inl rfl)) (fun _ _ _ _ _ => pts_nil) (fun _ _ _ _ _ => (pe_chain op_le_str op_le_str pe_str (pv 1) pe_str))) pa_nil)))), ?_⟩
    refine ⟨_, rfl, _, _, _, _, _, rfl, .ty _, .base (.str _), kit_ty ki_ss, true, rfl, ?_⟩
    refine ⟨_, rfl, _, _, rfl, ⟨le_line (by omega), rfl⟩, _, _, rfl, rfl, _, rfl, ?_⟩
    refine itep (decide_eq_true (by omega)) ?_
    refine ⟨_, _, rfl, rfl, _, rfl, ?_⟩
    refine ite2 (fun c => absurd c (by simp; omega)) (fun _ => ?_)
    refine ⟨_, rfl, z, rfl, fun D hD => lc_it walk_str (fun i H' => Same H H' ∧ H' D = some (.lst ((trues i).map V.bl))) ⟨same_new hD, upd_same⟩ (fun _ _ _ _ => trivial) ?_ ?_⟩
    · rintro i x H1 H2 hi ⟨hs, hd⟩ ⟨rfl, c, hc1, rfl⟩
      have hcm : c ∈ z.cps.toList := by rw [← Array.mem_toList_iff.symm]; exact Array.mem_of_getElem? hc1
      obtain ⟨c1, c2⟩ := hc c hcm
      refine ⟨rfl, ?_⟩
      refine ⟨_, rfl, _, _, rfl, rfl, _, rfl, ?_⟩
      refine itep (nlt_one c1) ?_
      refine ⟨_, _, rfl, rfl, ?_⟩
      refine ⟨_, hd, by rw [trues_len]; exact lt_line (by have : z.length = z.cps.size := rfl; omega), Same.mut hs hD, ?_⟩
      have e := nlt_one c2
      rw [upd_same, ← trues_snoc, ← e]
      rfl
    · rintro H2 ⟨hs, hd⟩
      refine ⟨D, trues z.cps.size, rfl, SqL.of hd, ?_⟩
      rw [trues_all]
      exact k H2 hs
/-! ### letter_of -/
def letter : Thing → Str
  | .leaf _ => "L"
  | .tree _ => "T"
  | .note _ _ _ => "N"
def spLetter : Sp := fun vs H Q _ => ∃ (a : Addr) (t : Thing), vs = [.ref a] ∧ ThAt H a t ∧ Q (.str (letter t)) H
theorem sc_letter_of : FnScope ["thing"] ["thing"] (defScope s_letter_of) := ⟨rfl, rfl, rfl, by decide +kernel, rfl, by decide +kernel, by decide +kernel⟩
theorem ne_s {a b : Str} (h : ¬ a = b) : ¬ decide (V.str a = V.str b) = true := by simpa using h
theorem ok_letter_of (T : Tx K mg) : Gf P w K mg base CX0 1 (He.ga K "letter_of") ["thing"] spLetter := by
  refine gf0_of T.d_letter_of sc_letter_of (fun _ _ _ _ _ _ us hl => match us, hl with | [_], _ => rfl) (fun vs H Q E h => ?_) (fun cdv A outer s H vs Q E hr h => ?_)
  · obtain ⟨a, t, rfl, _⟩ := h; rfl
  · obtain ⟨a, t, rfl, ht, k⟩ := h
    refine ⟨_, pss_cons (ps_if (pt_cmpR op_eq (pe_ix (r := rIxT K) ix_tup (pv 0) pe_int (fun _ _ => rfl)) pe_str (nomark _))
        (pss_one (ps_ret pe_str))
        (pss_nil))
      (pss_cons (ps_if (pt_cmpR op_eq (pe_ix (r := rIxT K) ix_tup (pv 0) pe_int (fun _ _ => rfl)) pe_str (nomark _))
        (pss_one (ps_ret pe_str))
        (pss_nil))
      (pss_one (ps_ret pe_str))), ?_⟩
    cases t with
    | leaf ls =>
      obtain ⟨q, h1, h2⟩ := ht
      refine ⟨_, rfl, a, _, _, _, rfl, rfl, SqT.of h1, rfl, rfl, _, rfl, ?_⟩
      refine itep (decide_eq_true rfl) ?_
      exact k
    | tree rows =>
      obtain ⟨q, as, h1, h2, h3⟩ := ht
      refine ⟨_, rfl, a, _, _, _, rfl, rfl, SqT.of h1, rfl, rfl, _, rfl, ?_⟩
      refine iten (ne_s (by decide +kernel)) ?_
      refine ⟨_, rfl, a, _, _, _, rfl, rfl, SqT.of h1, rfl, rfl, _, rfl, ?_⟩
      refine itep (decide_eq_true rfl) ?_
      exact k
    | note t ps w =>
      obtain ⟨q, h1, h2⟩ := ht
      refine ⟨_, rfl, a, _, _, _, rfl, rfl, SqT.of h1, rfl, rfl, _, rfl, ?_⟩
      refine iten (ne_s (by decide +kernel)) ?_
      refine ⟨_, rfl, a, _, _, _, rfl, rfl, SqT.of h1, rfl, rfl, _, rfl, ?_⟩
      refine iten (ne_s (by decide +kernel)) ?_
      exact k
end
end An

namespace An
open PySem PySem.Spec L2
def Rising (rows : List (Str × Str)) : Prop := ∀ i a b, rows[i]? = some a → rows[i + 1]? = some b → a.1.cps.toList < b.1.cps.toList
def ThOk : Thing → Prop
  | .leaf ls => (∀ l ∈ ls, LineOk l) ∧ ls.length ≤ 1000
  | .tree rows => (∀ r ∈ rows, LabelOk r.1 ∧ r.2.length ≤ 20) ∧ Rising rows ∧ rows.length ≤ 100
  | .note t ps w => t.length ≤ 20 ∧ (∀ p ∈ ps, p.length ≤ 20) ∧ ps.length ≤ 1 ∧ LineOk w
theorem take_snoc {α : Type} {l : List α} {i : Nat} {x : α} (h : l[i]? = some x) : l.take (i + 1) = l.take i ++ [x] := by
  rw [List.take_succ, h]; rfl
theorem names_len {t : Thing} (o : ThOk t) : t.names.length ≤ 100 := by
  cases t with
  | leaf ls => exact Nat.zero_le _
  | tree rows => show (rows.map (·.2)).length ≤ 100; rw [List.length_map]; exact o.2.2
  | note t ps w => show ps.length + 1 ≤ 100; have := o.2.2.1; omega
section
variable {P : Program} {w : World} {K : PySem.W.Frag} {mg : Str → Option Value} {base : Heap}
/-! ### names_in -/
def spNamesIn : Sp := fun vs H Q _ => ∃ (a : Addr) (t : Thing), vs = [.ref a] ∧ ThAt H a t ∧ ThOk t ∧ ∀ p H', H p = none → Same H H' → H' p = some (.lst (t.names.map V.str)) → Q (.ref p) H'
theorem sc_names_in : FnScope ["thing", "row"] ["thing"] (defScope s_names_in) := ⟨rfl, rfl, rfl, by decide +kernel, rfl, by decide +kernel, by decide +kernel⟩
theorem ok_names_in (T : Tx K mg) : Gf P w K mg base CX0 1 (He.ga K "names_in") ["thing"] spNamesIn := by
  refine gf0_of T.d_names_in sc_names_in (fun _ _ _ _ _ _ us hl => match us, hl with | [_], _ => rfl) (fun vs H Q E h => ?_) (fun cdv A outer s H vs Q E hr h => ?_)
  · obtain ⟨a, t, rfl, _⟩ := h; rfl
  · obtain ⟨a, t, rfl, ht, ok, k⟩ := h
    refine ⟨_, pss_cons (ps_if (pt_cmpR op_eq (pe_ix (r := rIxT K) ix_tup (pv 0) pe_int (fun _ _ => rfl)) pe_str (nomark _))
        (pss_one (ps_ret (pe_lst pa_nil)))
        (pss_nil))
      (pss_cons (ps_if (pt_cmpR op_eq (pe_ix (r := rIxT K) ix_tup (pv 0) pe_int (fun _ _ => rfl)) pe_str (nomark _))
        (pss_one (ps_ret (pe_lc (own := [("row", 1)]) (g := gName 1) rfl sc_names_in.nd (pi_tup (pe_ix (r := rIxT K) ix_tup (pv 0) pe_int (fun _ _ => rfl))) (blkOk_by (own := [("row", 1)]) (N := ["thing", "row"]) (sc := defScope s_names_in) (by decide +kernel)) (fun _ _ _ _ _ => pg_name (i := 1) sc_names_in.nd rfl (Or.inl rfl)) (fun _ _ _ _ _ => pts_nil) (fun _ _ _ _ _ => (pe_ix (r := rIxT K) ix_tup (pv 1) pe_int (fun _ _ => rfl))))))
        (pss_nil))
      (pss_one (ps_ret (pe_op op_cat (pe_lst (pa_cons (pe_ix (r := rIxT K) ix_tup (pv 0) pe_int (fun _ _ => rfl)) pa_nil)) (pe_callTy (r := rListK K) call_list_of rfl T.n_list (by decide +kernel) (pa_cons (pe_ix (r := rIxT K) ix_tup (pv 0) pe_int (fun _ _ => rfl)) pa_nil)))))), ?_⟩
    have nl := names_len ok
    cases t with
    | leaf ls =>
      obtain ⟨q, h1, h2⟩ := ht
      refine ⟨_, rfl, a, _, _, _, rfl, rfl, SqT.of h1, rfl, rfl, _, rfl, ?_⟩
      refine itep (decide_eq_true rfl) ?_
      refine ⟨Nat.zero_le _, fun p hp => k p _ hp (same_new hp) upd_same⟩
    | tree rows =>
      obtain ⟨q, as, h1, h2, h3⟩ := ht
      refine ⟨_, rfl, a, _, _, _, rfl, rfl, SqT.of h1, rfl, rfl, _, rfl, ?_⟩
      refine iten (ne_s (by decide +kernel)) ?_
      refine ⟨_, rfl, a, _, _, _, rfl, rfl, SqT.of h1, rfl, rfl, _, rfl, ?_⟩
      refine itep (decide_eq_true rfl) ?_
      refine ⟨_, rfl, a, _, _, _, rfl, rfl, SqT.of h1, rfl, q, rfl, ⟨_, SqT.of h2⟩, fun D hD => lc_it walk_tup (fun i H' => Same H H' ∧ H' D = some (.lst ((rows.take i).map fun r => V.str r.2))) ⟨same_new hD, upd_same⟩ (fun _ _ _ p => SqT.of (p.1 _ _ h2)) ?_ ?_⟩
      · rintro i x H1 H2 hi ⟨hs, hd⟩ ⟨rfl, hx⟩
        obtain ⟨b, hb, rfl⟩ := map_get hx
        obtain ⟨r, hr1, hr2⟩ := paired_get h3 hb
        refine ⟨rfl, ?_⟩
        have hlen := (List.getElem?_eq_some_iff.mp hr1).1
        have ol : rows.length ≤ 100 := ok.2.2
        refine ⟨_, rfl, b, _, _, _, rfl, rfl, SqT.of (hs _ _ hr2), rfl, _, hd, ?_, Same.mut hs hD, ?_⟩
        · rw [List.length_map, List.length_take]; exact lt_line (by omega)
        · rw [upd_same, take_snoc hr1, List.map_append]; rfl
      · rintro H2 ⟨hs, hd⟩
        refine k D H2 hD hs ?_
        have e : (as.map V.ref).length = rows.length := by rw [List.length_map]; exact Paired.length h3
        rw [hd, e, List.take_length]
        simp [Thing.names]
    | note t ps w =>
      obtain ⟨q, h1, h2⟩ := ht
      have op : ps.length ≤ 1 := ok.2.2.1
      refine ⟨_, rfl, a, _, _, _, rfl, rfl, SqT.of h1, rfl, rfl, _, rfl, ?_⟩
      refine iten (ne_s (by decide +kernel)) ?_
      refine ⟨_, rfl, a, _, _, _, rfl, rfl, SqT.of h1, rfl, rfl, _, rfl, ?_⟩
      refine iten (ne_s (by decide +kernel)) ?_
      refine ⟨_, rfl, a, _, _, _, rfl, rfl, SqT.of h1, rfl, by show 1 ≤ sizeLine; decide, fun p hp => ?_⟩
      have s1 : Same H (upd H p (.lst [V.str t])) := same_new hp
      refine ⟨_, rfl, a, _, _, _, rfl, rfl, SqT.of (s1 _ _ h1), rfl, q, _, rfl, .inr (SqT.of (s1 _ _ h2)), fun l hl => ?_⟩
      have s2 := Same.new (o := .lst (ps.map V.str)) s1 hl
      have npl : p ≠ l := ne_of_none upd_same hl
      refine ⟨p, l, _, _, rfl, rfl, by rw [upd_ne npl]; exact upd_same, upd_same, le_line (by rw [List.length_map]; show 1 + _ ≤ _; omega), fun p2 hp2 => ?_⟩
      exact k p2 _ (L2.Same.free s2 hp2) (Same.new s2 hp2) upd_same
/-! ### parts_of -/
def Parts (ys : List Str) : Prop := ys.length ≤ 1000 ∧ ∀ y ∈ ys, y.length ≤ 20
def spParts : Sp := fun vs H Q _ => ∃ (a : Addr) (t : Thing), vs = [.ref a] ∧ ThAt H a t ∧ ThOk t ∧ ∀ p H' ys, H p = none → Same H H' → H' p = some (.lst (ys.map V.str)) → Parts ys → Q (.ref p) H'
theorem sc_parts_of : FnScope ["thing", "found", "label", "name"] ["thing"] (defScope s_parts_of) := ⟨rfl, rfl, rfl, by decide +kernel, rfl, by decide +kernel, by decide +kernel⟩
theorem ok_parts_of (T : Tx K mg) : Gf P w K mg base CX0 1 (He.ga K "parts_of") ["thing"] spParts := by
  refine gf0_of T.d_parts_of sc_parts_of (fun _ _ _ _ _ _ us hl => match us, hl with | [_], _ => rfl) (fun vs H Q E h => ?_) (fun cdv A outer s H vs Q E hr h => ?_)
  · obtain ⟨a, t, rfl, _⟩ := h; rfl
  · obtain ⟨a, t, rfl, ht, ok, k⟩ := h
    refine ⟨_, pss_cons (ps_if (pt_cmpR op_eq (pe_ix (r := rIxT K) ix_tup (pv 0) pe_int (fun _ _ => rfl)) pe_str (nomark _))
        (pss_one (ps_ret (pe_callTy (r := rListK K) call_list_of rfl T.n_list (by decide +kernel) (pa_cons (pe_ix (r := rIxT K) ix_tup (pv 0) pe_int (fun _ _ => rfl)) pa_nil))))
        (pss_nil))
      (pss_cons (ps_if (pt_cmpR op_eq (pe_ix (r := rIxT K) ix_tup (pv 0) pe_int (fun _ _ => rfl)) pe_str (nomark _))
        (pss_one (ps_ret (pe_op op_cat (pe_op op_cat (pe_lst (pa_cons (pe_ix (r := rIxT K) ix_tup (pv 0) pe_int (fun _ _ => rfl)) (pa_cons (pe_callTy call_str_int rfl T.n_str (by decide +kernel) (pa_cons (pe_callB (r := rLen K) call_len rfl T.n_len (by decide +kernel) (pa_cons (pe_ix (r := rIxT K) ix_tup (pv 0) pe_int (fun _ _ => rfl)) pa_nil)) pa_nil)) pa_nil))) (pe_callTy (r := rListK K) call_list_of rfl T.n_list (by decide +kernel) (pa_cons (pe_ix (r := rIxT K) ix_tup (pv 0) pe_int (fun _ _ => rfl)) pa_nil))) (pe_lst (pa_cons (pe_ix (r := rIxT K) ix_tup (pv 0) pe_int (fun _ _ => rfl)) pa_nil)))))
        (pss_nil))
      (pss_cons (ps_set (i := 1) sc_parts_of.nd rfl (Or.inl rfl) (pe_lst pa_nil))
      (pss_cons (ps_for PassesOwn.never rfl (pi_tup (pe_ix (r := rIxT K) ix_tup (pv 0) pe_int (fun _ _ => rfl))) (pg_tup rfl (pgs_cons (pg_name (i := 2) sc_parts_of.nd rfl (Or.inl rfl)) (pgs_cons (pg_name (i := 3) sc_parts_of.nd rfl (Or.inl rfl)) pgs_nil)))
        (pss_cons (ps_expr (pe_bm PySem.F.plainAttrs_list PySem.F.slot_list_append PySem.F.type_list_append mt_append (pv 1) (pa_cons (pv 2) pa_nil)))
        (pss_one (ps_expr (pe_bm PySem.F.plainAttrs_list PySem.F.slot_list_append PySem.F.type_list_append mt_append (pv 1) (pa_cons (pv 3) pa_nil))))))
      (pss_one (ps_ret (pv 1)))))), ?_⟩
    cases t with
    | leaf ls =>
      obtain ⟨q, h1, h2⟩ := ht
      obtain ⟨o1, o2⟩ := ok
      refine ⟨_, rfl, a, _, _, _, rfl, rfl, SqT.of h1, rfl, rfl, _, rfl, ?_⟩
      refine itep (decide_eq_true rfl) ?_
      exact ⟨_, rfl, a, _, _, _, rfl, rfl, SqT.of h1, rfl, q, _, rfl, .inr (SqT.of h2), fun l hl => k l _ ls hl (same_new hl) upd_same ⟨o2, fun y hy => (o1 y hy).1⟩⟩
    | tree rows =>
      obtain ⟨q, as, h1, h2, h3⟩ := ht
      obtain ⟨o1, o2, o3⟩ := ok
      refine ⟨_, rfl, a, _, _, _, rfl, rfl, SqT.of h1, rfl, rfl, _, rfl, ?_⟩
      refine iten (ne_s (by decide +kernel)) ?_
      refine ⟨_, rfl, a, _, _, _, rfl, rfl, SqT.of h1, rfl, rfl, _, rfl, ?_⟩
      refine iten (ne_s (by decide +kernel)) ?_
      refine ⟨Nat.zero_le _, fun p hp => ?_⟩
      have s1 := same_new (o := .lst []) hp
      refine ⟨_, rfl, a, _, _, _, rfl, rfl, SqT.of (s1 _ _ h1), rfl, q, rfl, ⟨_, SqT.of (s1 _ _ h2)⟩, for_it walk_tup (fun i σ H' => ∃ v1 v2 ys, σ = [some (.ref a), some (.ref p), v1, v2] ∧ Same H H' ∧ H' p = some (.lst (ys.map V.str)) ∧ ys.length ≤ 2 * i ∧ ∀ y ∈ ys, y.length ≤ 20)
        ⟨_, _, [], rfl, s1, upd_same, Nat.le_refl _, fun _ hy => by cases hy⟩ (fun _ _ _ _ ⟨_, _, _, _, p, _⟩ => SqT.of (p _ _ h2)) ?_ ?_⟩
      · rintro i x σ H1 H2 hi ⟨v1, v2, ys, e, hs, hd, hy1, hy2⟩ ⟨rfl, hx⟩
        obtain ⟨b, hb, rfl⟩ := map_get hx
        obtain ⟨r, hr1, hr2⟩ := paired_get h3 hb
        obtain ⟨l1, l2⟩ := o1 r (List.mem_of_getElem? hr1)
        rw [List.length_map] at hi
        have el := Paired.length h3
        rw [e]
        refine ⟨b, _, rfl, SqT.of (hs _ _ hr2), rfl, _, _, rfl, _, _, rfl, rfl, ?_⟩
        refine ⟨_, rfl, Or.inl ⟨rfl, _, SqL.of hd⟩, _, rfl, p, _, _, rfl, rfl, hd, by rw [List.length_map]; exact lt_line (by omega), ?_⟩
        refine ⟨_, rfl, Or.inl ⟨rfl, _, SqL.of upd_same⟩, _, rfl, p, _, _, rfl, rfl, upd_same, by rw [List.length_append, List.length_map]; exact lt_line (by show _ + 1 < _; omega), ?_⟩
        refine ⟨_, _, ys ++ [r.1, r.2], rfl, Same.mut (Same.mut hs hp) hp, ?_, ?_, ?_⟩
        · rw [upd_same, List.map_append, List.append_assoc]; rfl
        · rw [List.length_append]; show ys.length + 2 ≤ _; omega
        · intro y hy
          rcases List.mem_append.mp hy with h | h
          · exact hy2 y h
          · simp only [List.mem_cons, List.not_mem_nil, or_false] at h
            rcases h with rfl | rfl
            · exact Nat.le_trans l1.2.1 (by decide)
            · exact l2
      · rintro σ H2 ⟨v1, v2, ys, e, hs, hd, hy1, hy2⟩
        rw [e]
        rw [List.length_map] at hy1
        have el := Paired.length h3
        exact ⟨_, rfl, k p H2 ys hp hs hd ⟨by omega, hy2⟩⟩
    | note t ps w =>
      obtain ⟨q, h1, h2⟩ := ht
      obtain ⟨o1, o2, o3, o4⟩ := ok
      refine ⟨_, rfl, a, _, _, _, rfl, rfl, SqT.of h1, rfl, rfl, _, rfl, ?_⟩
      refine iten (ne_s (by decide +kernel)) ?_
      refine ⟨_, rfl, a, _, _, _, rfl, rfl, SqT.of h1, rfl, rfl, _, rfl, ?_⟩
      refine itep (decide_eq_true rfl) ?_
      refine ⟨_, rfl, a, _, _, _, rfl, rfl, SqT.of h1, rfl, ?_⟩
      refine ⟨_, rfl, a, _, _, _, rfl, rfl, SqT.of h1, rfl, _, _, rfl, .inr ⟨_, SqT.of h2, rfl⟩, _, rfl, log_small (by omega) (by rw [List.length_map]; omega), by show 2 ≤ sizeLine; decide, fun p hp => ?_⟩
      have s1 := same_new (o := .lst [V.str t, V.str (Str.ofString (toString (((ps.map V.str).length : Nat) : Int)))]) hp
      refine ⟨_, rfl, a, _, _, _, rfl, rfl, SqT.of (s1 _ _ h1), rfl, q, _, rfl, .inr (SqT.of (s1 _ _ h2)), fun l hl => ?_⟩
      have s2 := Same.new (o := .lst (ps.map V.str)) s1 hl
      have npl : p ≠ l := ne_of_none upd_same hl
      refine ⟨p, l, _, _, rfl, rfl, by rw [upd_ne npl]; exact upd_same, upd_same, le_line (by rw [List.length_map]; show 2 + _ ≤ _; omega), fun p2 hp2 => ?_⟩
      have s3 := Same.new (o := .lst ([V.str t, V.str (Str.ofString (toString (((ps.map V.str).length : Nat) : Int)))] ++ ps.map V.str)) s2 hp2
      refine ⟨_, rfl, a, _, _, _, rfl, rfl, SqT.of (s3 _ _ h1), rfl, by show 1 ≤ sizeLine; decide, fun p3 hp3 => ?_⟩
      have s4 := Same.new (o := .lst [V.str w]) s3 hp3
      have n23 : p2 ≠ p3 := ne_of_none upd_same hp3
      refine ⟨p2, p3, _, _, rfl, rfl, by rw [upd_ne n23]; exact upd_same, upd_same, le_line (by rw [List.length_append, List.length_map]; show 2 + _ + 1 ≤ _; omega), fun p4 hp4 => ?_⟩
      refine k p4 _ (t :: Str.ofString (toString (((ps.map V.str).length : Nat) : Int)) :: (ps ++ [w])) (L2.Same.free s4 hp4) (Same.new s4 hp4) ?_ ⟨?_, ?_⟩
      · rw [upd_same]; simp
      · simp; omega
      · intro y hy
        simp only [List.mem_cons, List.mem_append, List.not_mem_nil, or_false] at hy
        rcases hy with rfl | rfl | h | rfl
        · exact o1
        · exact Nat.le_trans (num_len (by rw [List.length_map]; omega)) (by decide)
        · exact o2 y h
        · exact o4.1
end
end An

namespace An
open PySem PySem.Spec L2
theorem join_len (y : Str) : ∀ parts : List Str, (Str.join y parts).length ≤ (parts.map (·.length)).sum + parts.length * y.length
  | [] => Nat.zero_le _
  | [x] => by
    show x.length ≤ _
    simp
  | x :: z :: r => by
    have h := join_len y (z :: r)
    show (x ++ y ++ Str.join y (z :: r)).length ≤ _
    rw [len_app, len_app, List.map_cons, List.sum_cons, List.length_cons, Nat.succ_mul]
    omega
theorem sum_le {l : List Str} {b : Nat} (h : ∀ z ∈ l, z.length ≤ b) : (l.map (·.length)).sum ≤ l.length * b := by
  induction l with
  | nil => exact Nat.zero_le _
  | cons a r ih =>
    rw [List.map_cons, List.sum_cons, List.length_cons, Nat.succ_mul]
    have h1 := ih fun z hz => h z (List.mem_cons_of_mem _ hz)
    have h2 := h a List.mem_cons_self
    omega
theorem letter_len (t : Thing) : (letter t).length ≤ 1 := by
  cases t with
  | leaf ls => show ("L" : Str).length ≤ 1; decide +kernel
  | tree ls => show ("T" : Str).length ≤ 1; decide +kernel
  | note a b c => show ("N" : Str).length ≤ 1; decide +kernel
theorem ne_i {a b : Int} (h : ¬ a = b) : ¬ decide (V.int a = V.int b) = true := by simpa using h
section
variable {P : Program} {w : World} {K : PySem.W.Frag} {mg : Str → Option Value} {base : Heap}
/-! ### spelled -/
def spSpelled : Sp := fun vs H Q _ => ∃ (a : Addr) (t : Thing), vs = [.ref a] ∧ ThAt H a t ∧ ThOk t ∧ ∀ z H', Same H H' → z.length ≤ 90000 → Q (.str z) H'
theorem sc_spelled : FnScope ["thing", "part"] ["thing"] (defScope s_spelled) := ⟨rfl, rfl, rfl, by decide +kernel, rfl, by decide +kernel, by decide +kernel⟩
theorem ok_spelled (T : Tx K mg) : Gf P w K mg base CX0 2 (He.ga K "spelled") ["thing"] spSpelled := by
  have G_letter_of : Gf P w K mg base CX0 1 _ _ spLetter := ok_letter_of T
  have G_parts_of : Gf P w K mg base CX0 1 _ _ spParts := ok_parts_of T
  refine gf0_of T.d_spelled sc_spelled (fun _ _ _ _ _ _ us hl => match us, hl with | [_], _ => rfl) (fun vs H Q E h => ?_) (fun cdv A outer s H vs Q E hr h => ?_)
  · obtain ⟨a, t, rfl, _⟩ := h; rfl
  · obtain ⟨a, t, rfl, ht, ok, k⟩ := h
    refine ⟨_, pss_one (ps_ret (pe_op op_add_str (pe_fn G_letter_of (hr.mono (by decide)) T.g_letter_of pass0 (pa_cons (pv 0) pa_nil)) (pe_joinK (K := K) rfl pe_str (pe_lc (own := [("part", 1)]) (g := gName 1) rfl sc_spelled.nd (pi_list (pe_fn G_parts_of (hr.mono (by decide)) T.g_parts_of pass0 (pa_cons (pv 0) pa_nil))) (blkOk_by (own := [("part", 1)]) (N := ["thing", "part"]) (sc := defScope s_spelled) (by decide +kernel)) (fun _ _ _ _ _ => pg_name (i := 1) sc_spelled.nd rfl (Or.inl rfl)) (fun _ _ _ _ _ => pts_nil) (fun _ _ _ _ _ => (pe_op op_add_str (pe_op op_add_str (pe_callTy call_str_int rfl T.n_str (by decide +kernel) (pa_cons (pe_callB (r := rLen K) call_len rfl T.n_len (by decide +kernel) (pa_cons (pv 1) pa_nil)) pa_nil)) pe_str) (pv 1))))))), ?_⟩
    refine ⟨_, rfl, a, t, rfl, ht, ?_⟩
    refine ⟨⟨_, rfl⟩, _, rfl, a, t, rfl, ht, ok, fun p H1 ys hp s1 hp1 ⟨pl, pb⟩ => ?_⟩
    refine ⟨p, rfl, ⟨_, SqL.of hp1⟩, fun D hD => lc_it walk_list (fun i H' => ∃ zs : List Str, Same H1 H' ∧ H' D = some (.lst (zs.map V.str)) ∧ zs.length = i ∧ ∀ z ∈ zs, z.length ≤ 26) ⟨[], same_new hD, upd_same, rfl, fun _ h => by cases h⟩ (fun _ _ _ ⟨_, q, _⟩ => SqL.of (q _ _ hp1)) ?_ ?_⟩
    · rintro i x H2 H3 hi ⟨zs, hs, hd, hl, hb⟩ ⟨rfl, hx⟩
      obtain ⟨y, hy, rfl⟩ := map_get hx
      have by20 := pb y (List.mem_of_getElem? hy)
      rw [List.length_map] at hi
      refine ⟨rfl, ?_⟩
      have hn : (Str.ofString (toString ((y.length : Nat) : Int))).length ≤ 5 := num_len (by omega)
      refine ⟨_, rfl, _, _, rfl, ⟨le_line (by omega), rfl⟩, _, rfl, log_small (by omega) (by omega), _, _, rfl, rfl, ?_, _, rfl, _, _, rfl, rfl, ?_, ?_⟩
      · exact le_line (by have : (":" : Str).length = 1 := by decide +kernel
                          omega)
      · rw [len_app]; exact le_line (by have : (":" : Str).length = 1 := by decide +kernel
                                        omega)
      · refine ⟨_, hd, by rw [List.length_map]; exact lt_line (by omega), zs ++ [Str.ofString (toString ((y.length : Nat) : Int)) ++ ":" ++ y], Same.mut hs hD, ?_, ?_, ?_⟩
        · rw [upd_same, List.map_append]; rfl
        · rw [List.length_append, hl]; rfl
        · intro z hz
          rcases List.mem_append.mp hz with h | h
          · exact hb z h
          · rw [List.mem_singleton.mp h, len_app, len_app]
            have : (":" : Str).length = 1 := by decide +kernel
            omega
    · rintro H2 ⟨zs, hs, hd, hl, hb⟩
      rw [List.length_map] at hl
      have e0 : ("" : Str).length = 0 := by decide +kernel
      have hsum := sum_le hb
      have hj := join_len "" zs
      have bnd : zs.length * 26 ≤ 26000 := by omega
      refine ⟨_, D, zs, rfl, rfl, .inl (SqL.of hd), ?_, _, _, rfl, rfl, ?_, k _ _ (s1.trans hs) ?_⟩
      · rw [e0]; omega
      · rw [TL.join_eq]
        rw [e0] at hj
        exact le_line (by have := letter_len t
                          omega)
      · rw [len_app, TL.join_eq]
        rw [e0] at hj
        have := letter_len t
        omega
/-! ### digest -/
def spDigest : Sp := fun vs H Q _ => ∃ (a : Addr) (t : Thing), vs = [.ref a] ∧ ThAt H a t ∧ ThOk t ∧ ∀ (n : Nat) H', Same H H' → n < 97 → Q (.int n) H'
theorem sc_digest : FnScope ["thing", "found", "sign"] ["thing"] (defScope s_digest) := ⟨rfl, rfl, rfl, by decide +kernel, rfl, by decide +kernel, by decide +kernel⟩
theorem ok_digest (T : Tx K mg) : Gf P w K mg base CX0 3 (He.ga K "digest") ["thing"] spDigest := by
  have G_spelled : Gf P w K mg base CX0 2 _ _ spSpelled := ok_spelled T
  refine gf0_of T.d_digest sc_digest (fun _ _ _ _ _ _ us hl => match us, hl with | [_], _ => rfl) (fun vs H Q E h => ?_) (fun cdv A outer s H vs Q E hr h => ?_)
  · obtain ⟨a, t, rfl, _⟩ := h; rfl
  · obtain ⟨a, t, rfl, ht, ok, k⟩ := h
    refine ⟨_, pss_cons (ps_set (i := 1) sc_digest.nd rfl (Or.inl rfl) pe_int)
      (pss_cons (ps_for PassesOwn.never rfl (pi_str (pe_fn G_spelled (hr.mono (by decide)) T.g_spelled pass0 (pa_cons (pv 0) pa_nil))) (pg_name (i := 2) sc_digest.nd rfl (Or.inl rfl))
        (pss_one (ps_set (i := 1) sc_digest.nd rfl (Or.inl rfl) (pe_op op_mod (pe_op op_add (pe_op op_mul pe_int (pv 1)) (pe_callB call_ord rfl T.n_ord (by decide +kernel) (pa_cons (pv 2) pa_nil))) pe_int))))
      (pss_one (ps_ret (pv 1)))), ?_⟩
    refine ⟨_, rfl, a, t, rfl, ht, ok, fun z H1 s1 hz => ?_⟩
    refine ⟨z, rfl, for_it walk_str (fun i σ H' => ∃ (n : Nat) (v : Option V), σ = [some (.ref a), some (.int (n : Int)), v] ∧ Same H H' ∧ n < 97) ⟨0, none, rfl, s1, by decide⟩ (fun _ _ _ _ _ => trivial) ?_ ?_⟩
    · rintro i x σ H2 H3 hi ⟨n, v, rfl, hs, hn⟩ ⟨rfl, c, hc, rfl⟩
      refine ⟨_, rfl, _, _, rfl, rfl, .inl ⟨by decide, by decide⟩, _, rfl, _, rfl, rfl, _, _, rfl, rfl, _, _, rfl, rfl, by show (0 : Int) < 97; decide, ?_⟩
      refine ⟨(31 * n + c) % 97, some (.str ⟨#[c]⟩), ?_, hs, Nat.mod_lt _ (by decide)⟩
      have e : ((31 : Int) * (n : Int) + ((c : Nat) : Int)) % 97 = (((31 * n + c) % 97 : Nat) : Int) := by omega
      show [some (V.ref a), some (V.int ((31 * (n : Int) + ((c : Nat) : Int)) % 97)), some (V.str ⟨#[c]⟩)] = _
      rw [e]
    · rintro σ H2 ⟨n, v, rfl, hs, hn⟩
      exact ⟨_, rfl, k n H2 hs hn⟩
/-! ### is_rows -/
def spRows : Sp := fun vs H Q _ => ∃ (a : Addr) (as : List Addr) (rows : List (Str × Str)), vs = [.ref a] ∧ H a = some (.tup (as.map V.ref)) ∧ RowsAt H as rows ∧ ThOk (.tree rows) ∧ ∀ H', Same H H' → Q (.bl true) H'
theorem sc_is_rows : FnScope ["thing", "last", "row"] ["thing"] (defScope s_is_rows) := ⟨rfl, rfl, rfl, by decide +kernel, rfl, by decide +kernel, by decide +kernel⟩
theorem ok_is_rows (T : Tx K mg) : Gf P w K mg base CX0 2 (He.ga K "is_rows") ["thing"] spRows := by
  have G_is_label : Gf P w K mg base CX0 1 _ _ spLabel := ok_is_label T
  refine gf0_of T.d_is_rows sc_is_rows (fun _ _ _ _ _ _ us hl => match us, hl with | [_], _ => rfl) (fun vs H Q E h => ?_) (fun cdv A outer s H vs Q E hr h => ?_)
  · obtain ⟨a, as, rows, rfl, _⟩ := h; rfl
  · obtain ⟨a, as, rows, rfl, h1, h2, ⟨o1, o2, o3⟩, k⟩ := h
    refine ⟨_, pss_cons (ps_if (pt_not (pt_val (pe_callB (r := rIsi K) call_isi rfl T.n_isinstance (by decide +kernel) (pa_cons (pv 0) (pa_cons (pe_tyv "tuple" T.n_tuple) pa_nil)))))
        (pss_one (ps_ret pe_bl))
        (pss_nil))
      (pss_cons (ps_set (i := 1) sc_is_rows.nd rfl (Or.inl rfl) pe_str)
      (pss_cons (ps_for PassesOwn.never rfl (pi_tup (pv 0)) (pg_name (i := 2) sc_is_rows.nd rfl (Or.inl rfl))
        (pss_cons (ps_if (PW.pt (pw_or (pt_not (pt_val (pe_callB (r := rIsi K) call_isi rfl T.n_isinstance (by decide +kernel) (pa_cons (pv 2) (pa_cons (pe_tyv "tuple" T.n_tuple) pa_nil))))) (pw_or (pt_cmpR op_ne (pe_callB (r := rLen K) call_len rfl T.n_len (by decide +kernel) (pa_cons (pv 2) pa_nil)) pe_int (nomark _)) (pw_or (pt_not (pt_val (pe_fn G_is_label (hr.mono (by decide)) T.g_is_label pass0 (pa_cons (pe_ix (r := rIxT K) ix_tup (pv 2) pe_int (fun _ _ => rfl)) pa_nil)))) (pw_or1 (pt_not (pt_val (pe_callB (r := rIsi K) call_isi rfl T.n_isinstance (by decide +kernel) (pa_cons (pe_ix (r := rIxT K) ix_tup (pv 2) pe_int (fun _ _ => rfl)) (pa_cons (pe_tyv "str" T.n_str) pa_nil))))))))))
          (pss_one (ps_ret pe_bl))
          (pss_nil))
        (pss_cons (ps_if (pt_cmpR op_le_str (pe_ix (r := rIxT K) ix_tup (pv 2) pe_int (fun _ _ => rfl)) (pv 1) (nomark _))
          (pss_one (ps_ret pe_bl))
          (pss_nil))
        (pss_one (ps_set (i := 1) sc_is_rows.nd rfl (Or.inl rfl) (pe_ix (r := rIxT K) ix_tup (pv 2) pe_int (fun _ _ => rfl)))))))
      (pss_one (ps_ret pe_bl)))), ?_⟩
    have el := Paired.length h2
    refine ⟨_, rfl, _, _, _, _, _, rfl, .ty _, .base (.tup h1), kit_ty ki_tt, true, rfl, ?_⟩
    refine ⟨_, rfl, a, rfl, ⟨_, SqT.of h1⟩, for_it walk_tup (fun i σ H' => ∃ (z : Str) (v : Option V), σ = [some (.ref a), some (.str z), v] ∧ Same H H' ∧ (∀ r, rows[i]? = some r → z.cps.toList < r.1.cps.toList)) ⟨"", none, rfl, Same.refl H, ?_⟩ (fun _ _ _ _ ⟨_, _, _, q, _⟩ => SqT.of (q _ _ h1)) ?_ ?_⟩
    · intro r hr1
      obtain ⟨⟨l1, _⟩, _⟩ := o1 r (List.mem_of_getElem? hr1)
      have e : ("" : Str).cps.toList = [] := by decide +kernel
      rw [e]
      have l1' : 1 ≤ r.1.cps.toList.length := by rw [Array.length_toList]; exact l1
      cases q : r.1.cps.toList with
      | nil => rw [q] at l1'; simp at l1'
      | cons c d => exact List.Lex.nil
    · rintro i x σ H1 H2 hi ⟨z, v, rfl, hs, hlt⟩ ⟨rfl, hx⟩
      obtain ⟨b, hb, rfl⟩ := map_get hx
      obtain ⟨r, hr1, hr2⟩ := paired_get h2 hb
      obtain ⟨l1, l2⟩ := o1 r (List.mem_of_getElem? hr1)
      have hb1 := hs _ _ hr2
      refine ⟨_, rfl, _, _, _, _, _, rfl, .ty _, .base (.tup hb1), kit_ty ki_tt, true, rfl, ?_⟩
      refine ⟨_, rfl, _, _, rfl, .inr ⟨_, SqT.of hb1, rfl⟩, rfl, _, rfl, ?_⟩
      refine iten (by simp) ?_
      refine ⟨_, rfl, b, _, _, _, rfl, rfl, SqT.of hb1, rfl, r.1, rfl, l1, fun H3 s3 => ?_⟩
      have hb3 := s3 _ _ hb1
      refine ⟨true, rfl, _, rfl, b, _, _, _, rfl, rfl, SqT.of hb3, rfl, _, _, _, _, _, rfl, .ty _, .base (.str _), kit_ty ki_ss, true, rfl, ?_⟩
      refine ⟨_, rfl, b, _, _, _, rfl, rfl, SqT.of hb3, rfl, _, rfl, _, _, rfl, rfl, _, rfl, ?_⟩
      refine iten (by have := hlt r hr1; simp [this]) ?_
      refine ⟨_, rfl, b, _, _, _, rfl, rfl, SqT.of hb3, rfl, ?_⟩
      exact ⟨r.1, _, rfl, hs.trans s3, fun r' h' => o2 i r r' hr1 h'⟩
    · rintro σ H2 ⟨z, v, rfl, hs, _⟩
      exact k H2 hs
/-! ### is_parents -/
def spParents : Sp := fun vs H Q _ => ∃ (a : Addr) (ps : List Str), vs = [.ref a] ∧ LsAt H a ps ∧ ps.length ≤ 1 ∧ ∀ H', Same H H' → Q (.bl true) H'
theorem sc_is_parents : FnScope ["thing", "name"] ["thing"] (defScope s_is_parents) := ⟨rfl, rfl, rfl, by decide +kernel, rfl, by decide +kernel, by decide +kernel⟩
theorem ok_is_parents (T : Tx K mg) : Gf P w K mg base CX0 1 (He.ga K "is_parents") ["thing"] spParents := by
  refine gf0_of T.d_is_parents sc_is_parents (fun _ _ _ _ _ _ us hl => match us, hl with | [_], _ => rfl) (fun vs H Q E h => ?_) (fun cdv A outer s H vs Q E hr h => ?_)
  · obtain ⟨a, ps, rfl, _⟩ := h; rfl
  · obtain ⟨a, ps, rfl, h1, o1, k⟩ := h
    refine ⟨_, pss_cons (ps_if (PW.pt (pw_or (pt_not (pt_val (pe_callB (r := rIsi K) call_isi rfl T.n_isinstance (by decide +kernel) (pa_cons (pv 0) (pa_cons (pe_tyv "tuple" T.n_tuple) pa_nil))))) (pw_or1 (pt_cmpR op_gt (pe_callB (r := rLen K) call_len rfl T.n_len (by decide +kernel) (pa_cons (pv 0) pa_nil)) pe_int (nomark _)))))
        (pss_one (ps_ret pe_bl))
        (pss_nil))
      (pss_cons (ps_if (pt_not (pt_val (pe_callB (r := rAll K) (cr_all rfl) rfl T.n_all (by decide +kernel) (pa_cons (pe_lc (own := [("name", 1)]) (g := gName 1) rfl sc_is_parents.nd (pi_tup (pv 0)) (blkOk_by (own := [("name", 1)]) (N := ["thing", "name"]) (sc := defScope s_is_parents) (by decide +kernel)) (fun _ _ _ _ _ => pg_name (i := 1) sc_is_parents.nd rfl (Or.inl rfl)) (fun _ _ _ _ _ => pts_nil) (fun _ _ _ _ _ => (pe_callB (r := rIsi K) call_isi rfl T.n_isinstance (by decide +kernel) (pa_cons (pv 1) (pa_cons (pe_tyv "str" T.n_str) pa_nil))))) pa_nil))))
        (pss_one (ps_ret pe_bl))
        (pss_nil))
      (pss_one (ps_ret (pe_or (pe_cmpR op_lt (pe_callB (r := rLen K) call_len rfl T.n_len (by decide +kernel) (pa_cons (pv 0) pa_nil)) pe_int (nomark _)) (pe_one (pe_cmpR op_ne (pe_ix (r := rIxT K) ix_tup (pv 0) pe_int (fun _ _ => rfl)) (pe_ix (r := rIxT K) ix_tup (pv 0) pe_int (fun _ _ => rfl)) (nomark _))))))), ?_⟩
    refine ⟨_, rfl, _, _, _, _, _, rfl, .ty _, .base (.tup h1), kit_ty ki_tt, true, rfl, ?_⟩
    refine ⟨_, rfl, _, _, rfl, .inr ⟨_, SqT.of h1, rfl⟩, _, _, rfl, rfl, _, rfl, ?_⟩
    refine iten (by simp; omega) ?_
    refine ⟨_, rfl, a, rfl, ⟨_, SqT.of h1⟩, fun D hD => lc_it walk_tup (fun i H' => Same H H' ∧ H' D = some (.lst ((trues i).map V.bl))) ⟨same_new hD, upd_same⟩ (fun _ _ _ p => SqT.of (lsm p.1 h1)) ?_ ?_⟩
    · rintro i x H1 H2 hi ⟨hs, hd⟩ ⟨rfl, hx⟩
      obtain ⟨z, hz, rfl⟩ := map_get hx
      rw [List.length_map] at hi
      refine ⟨rfl, ?_⟩
      refine ⟨_, rfl, _, _, _, _, _, rfl, .ty _, .base (.str _), kit_ty ki_ss, ?_⟩
      refine ⟨_, hd, by rw [trues_len]; exact lt_line (by omega), Same.mut hs hD, ?_⟩
      rw [upd_same, ← trues_snoc]
    · rintro H2 ⟨hs, hd⟩
      refine ⟨D, trues (ps.map V.str).length, rfl, SqL.of hd, ?_⟩
      rw [trues_all]
      refine ⟨true, rfl, ?_⟩
      refine ⟨_, rfl, _, _, rfl, .inr ⟨_, SqT.of (lsm hs h1), rfl⟩, _, _, rfl, rfl, _, rfl, ?_⟩
      refine itep (decide_eq_true (by rw [List.length_map]; omega)) ?_
      exact k H2 hs
/-! ### need_thing -/
def spNeed : Sp := fun vs H Q _ => ∃ (a : Addr) (t : Thing), vs = [.ref a] ∧ ThAt H a t ∧ ThOk t ∧ ∀ H', Same H H' → Q (.ref a) H'
theorem sc_need_thing : FnScope ["thing", "good"] ["thing"] (defScope s_need_thing) := ⟨rfl, rfl, rfl, by decide +kernel, rfl, by decide +kernel, by decide +kernel⟩
theorem ok_need_thing (T : Tx K mg) : Gf P w K mg base CX0 3 (He.ga K "need_thing") ["thing"] spNeed := by
  have G_is_lines : Gf P w K mg base CX0 2 _ _ spLines := ok_is_lines T
  have G_is_line : Gf P w K mg base CX0 1 _ _ spLine := ok_is_line T
  have G_is_rows : Gf P w K mg base CX0 2 _ _ spRows := ok_is_rows T
  have G_is_parents : Gf P w K mg base CX0 1 _ _ spParents := ok_is_parents T
  refine gf0_of T.d_need_thing sc_need_thing (fun _ _ _ _ _ _ us hl => match us, hl with | [_], _ => rfl) (fun vs H Q E h => ?_) (fun cdv A outer s H vs Q E hr h => ?_)
  · obtain ⟨a, t, rfl, _⟩ := h; rfl
  · obtain ⟨a, t, rfl, ht, ok, k⟩ := h
    refine ⟨_, pss_cons (ps_set (i := 1) sc_need_thing.nd rfl (Or.inl rfl) pe_bl)
      (pss_cons (ps_if (PW.pt (pw_and (pt_val (pe_callB (r := rIsi K) call_isi rfl T.n_isinstance (by decide +kernel) (pa_cons (pv 0) (pa_cons (pe_tyv "tuple" T.n_tuple) pa_nil)))) (pw_and (pt_cmpR op_eq (pe_callB (r := rLen K) call_len rfl T.n_len (by decide +kernel) (pa_cons (pv 0) pa_nil)) pe_int (nomark _)) (pw_and1 (pt_cmpR op_eq (pe_ix (r := rIxT K) ix_tup (pv 0) pe_int (fun _ _ => rfl)) pe_str (nomark _))))))
        (pss_one (ps_set (i := 1) sc_need_thing.nd rfl (Or.inl rfl) (pe_fn G_is_lines (hr.mono (by decide)) T.g_is_lines pass0 (pa_cons (pe_ix (r := rIxT K) ix_tup (pv 0) pe_int (fun _ _ => rfl)) pa_nil))))
        (pss_one (ps_if (PW.pt (pw_and (pt_val (pe_callB (r := rIsi K) call_isi rfl T.n_isinstance (by decide +kernel) (pa_cons (pv 0) (pa_cons (pe_tyv "tuple" T.n_tuple) pa_nil)))) (pw_and (pt_cmpR op_eq (pe_callB (r := rLen K) call_len rfl T.n_len (by decide +kernel) (pa_cons (pv 0) pa_nil)) pe_int (nomark _)) (pw_and1 (pt_cmpR op_eq (pe_ix (r := rIxT K) ix_tup (pv 0) pe_int (fun _ _ => rfl)) pe_str (nomark _))))))
          (pss_one (ps_set (i := 1) sc_need_thing.nd rfl (Or.inl rfl) (pe_fn G_is_rows (hr.mono (by decide)) T.g_is_rows pass0 (pa_cons (pe_ix (r := rIxT K) ix_tup (pv 0) pe_int (fun _ _ => rfl)) pa_nil))))
          (pss_one (ps_if (PW.pt (pw_and (pt_val (pe_callB (r := rIsi K) call_isi rfl T.n_isinstance (by decide +kernel) (pa_cons (pv 0) (pa_cons (pe_tyv "tuple" T.n_tuple) pa_nil)))) (pw_and (pt_cmpR op_eq (pe_callB (r := rLen K) call_len rfl T.n_len (by decide +kernel) (pa_cons (pv 0) pa_nil)) pe_int (nomark _)) (pw_and1 (pt_cmpR op_eq (pe_ix (r := rIxT K) ix_tup (pv 0) pe_int (fun _ _ => rfl)) pe_str (nomark _))))))
            (pss_one (ps_set (i := 1) sc_need_thing.nd rfl (Or.inl rfl) (pe_and (pe_callB (r := rIsi K) call_isi rfl T.n_isinstance (by decide +kernel) (pa_cons (pe_ix (r := rIxT K) ix_tup (pv 0) pe_int (fun _ _ => rfl)) (pa_cons (pe_tyv "str" T.n_str) pa_nil))) (pe_and (pe_fn G_is_parents (hr.mono (by decide)) T.g_is_parents pass0 (pa_cons (pe_ix (r := rIxT K) ix_tup (pv 0) pe_int (fun _ _ => rfl)) pa_nil)) (pe_one (pe_fn G_is_line (hr.mono (by decide)) T.g_is_line pass0 (pa_cons (pe_ix (r := rIxT K) ix_tup (pv 0) pe_int (fun _ _ => rfl)) pa_nil)))))))
            (pss_nil))))))
      (pss_cons (ps_if (pt_not (pt_val (pv 1)))
        (pss_one (ps_never))
        (pss_nil))
      (pss_one (ps_ret (pv 0))))), ?_⟩
    cases t with
    | leaf ls =>
      obtain ⟨q, h1, h2⟩ := ht
      obtain ⟨o1, o2⟩ := ok
      refine ⟨_, rfl, _, _, _, _, _, rfl, .ty _, .base (.tup h1), kit_ty ki_tt, true, rfl, ?_⟩
      refine ⟨_, rfl, _, _, rfl, .inr ⟨_, SqT.of h1, rfl⟩, rfl, _, rfl, ?_⟩
      refine itep (decide_eq_true rfl) ?_
      refine ⟨_, rfl, a, _, _, _, rfl, rfl, SqT.of h1, rfl, rfl, _, rfl, ?_⟩
      refine itep (decide_eq_true rfl) ?_
      refine ⟨_, rfl, a, _, _, _, rfl, rfl, SqT.of h1, rfl, q, ls, rfl, h2, o1, by omega, fun H1 s1 => ?_⟩
      exact ⟨_, rfl, true, rfl, _, rfl, k H1 s1⟩
    | tree rows =>
      obtain ⟨q, as, h1, h2, h3⟩ := ht
      refine ⟨_, rfl, _, _, _, _, _, rfl, .ty _, .base (.tup h1), kit_ty ki_tt, true, rfl, ?_⟩
      refine ⟨_, rfl, _, _, rfl, .inr ⟨_, SqT.of h1, rfl⟩, rfl, _, rfl, ?_⟩
      refine itep (decide_eq_true rfl) ?_
      refine ⟨_, rfl, a, _, _, _, rfl, rfl, SqT.of h1, rfl, rfl, _, rfl, ?_⟩
      refine iten (ne_s (by decide +kernel)) ?_
      refine ⟨_, rfl, _, _, _, _, _, rfl, .ty _, .base (.tup h1), kit_ty ki_tt, true, rfl, ?_⟩
      refine ⟨_, rfl, _, _, rfl, .inr ⟨_, SqT.of h1, rfl⟩, rfl, _, rfl, ?_⟩
      refine itep (decide_eq_true rfl) ?_
      refine ⟨_, rfl, a, _, _, _, rfl, rfl, SqT.of h1, rfl, rfl, _, rfl, ?_⟩
      refine itep (decide_eq_true rfl) ?_
      refine ⟨_, rfl, a, _, _, _, rfl, rfl, SqT.of h1, rfl, q, as, rows, rfl, h2, h3, ok, fun H1 s1 => ?_⟩
      exact ⟨_, rfl, true, rfl, _, rfl, k H1 s1⟩
    | note t ps w =>
      obtain ⟨q, h1, h2⟩ := ht
      obtain ⟨o1, o2, o3, o4⟩ := ok
      refine ⟨_, rfl, _, _, _, _, _, rfl, .ty _, .base (.tup h1), kit_ty ki_tt, true, rfl, ?_⟩
      refine ⟨_, rfl, _, _, rfl, .inr ⟨_, SqT.of h1, rfl⟩, rfl, _, rfl, ?_⟩
      refine iten (ne_i (by show ¬ ((4 : Nat) : Int) = 2; decide)) ?_
      refine ⟨_, rfl, _, _, _, _, _, rfl, .ty _, .base (.tup h1), kit_ty ki_tt, true, rfl, ?_⟩
      refine ⟨_, rfl, _, _, rfl, .inr ⟨_, SqT.of h1, rfl⟩, rfl, _, rfl, ?_⟩
      refine iten (ne_i (by show ¬ ((4 : Nat) : Int) = 2; decide)) ?_
      refine ⟨_, rfl, _, _, _, _, _, rfl, .ty _, .base (.tup h1), kit_ty ki_tt, true, rfl, ?_⟩
      refine ⟨_, rfl, _, _, rfl, .inr ⟨_, SqT.of h1, rfl⟩, rfl, _, rfl, ?_⟩
      refine itep (decide_eq_true rfl) ?_
      refine ⟨_, rfl, a, _, _, _, rfl, rfl, SqT.of h1, rfl, rfl, _, rfl, ?_⟩
      refine itep (decide_eq_true rfl) ?_
      refine ⟨_, rfl, a, _, _, _, rfl, rfl, SqT.of h1, rfl, _, _, _, _, _, rfl, .ty _, .base (.str _), kit_ty ki_ss, true, rfl, ?_⟩
      refine ⟨_, rfl, a, _, _, _, rfl, rfl, SqT.of h1, rfl, q, ps, rfl, h2, o3, fun H1 s1 => ?_⟩
      refine ⟨true, rfl, ?_⟩
      refine ⟨_, rfl, a, _, _, _, rfl, rfl, SqT.of (s1 _ _ h1), rfl, w, rfl, o4, fun H2 s2 => ?_⟩
      exact ⟨_, rfl, true, rfl, _, rfl, k H2 (s1.trans s2)⟩
end
end An

namespace An
open PySem PySem.Spec L2
/-! ### the table -/
def rowV (n : Nat) (g : Nat → Nat) : List V := (List.range (n + 1)).map fun k => V.int ((g k : Nat) : Int)
theorem rowV_len (n : Nat) (g : Nat → Nat) : (rowV n g).length = n + 1 := by unfold rowV; rw [List.length_map, List.length_range]
theorem rowV_get {n k : Nat} (g : Nat → Nat) (h : k ≤ n) : (rowV n g)[k]? = some (V.int ((g k : Nat) : Int)) := by
  unfold rowV; rw [List.getElem?_map, List.getElem?_range (by omega)]; rfl
theorem rowV_set {n k v : Nat} {g g' : Nat → Nat} (hk : k ≤ n) (h : ∀ j, j ≤ n → g' j = if j = k then v else g j) : (rowV n g).set k (V.int ((v : Nat) : Int)) = rowV n g' := by
  refine List.ext_getElem? fun j => ?_
  by_cases hj : j ≤ n
  · rw [rowV_get g' hj, h j hj]
    by_cases e : j = k
    · subst e
      rw [List.getElem?_set_self (by rw [rowV_len]; omega), if_pos rfl]
    · rw [List.getElem?_set_ne (fun q => e q.symm), rowV_get g hj, if_neg e]
  · exact (List.getElem?_eq_none_iff.mpr (show ((rowV n g).set k (V.int ((v : Nat) : Int))).length ≤ j by rw [List.length_set, rowV_len]; omega)).trans (List.getElem?_eq_none_iff.mpr (show (rowV n g').length ≤ j by rw [rowV_len]; omega)).symm
theorem rowV_congr {n : Nat} {g g' : Nat → Nat} (h : ∀ j, j ≤ n → g j = g' j) : rowV n g = rowV n g' := by
  unfold rowV
  refine List.map_congr_left fun j hj => ?_
  rw [h j (by have := List.mem_range.mp hj; omega)]
theorem rowV_zero (n : Nat) : (List.replicate (n + 1) [V.int 0]).flatten = rowV n fun _ => 0 := by
  unfold rowV
  have e : ∀ m, (List.replicate m [V.int 0]).flatten = (List.range m).map fun _ => V.int ((0 : Nat) : Int) := by
    intro m
    induction m with
    | zero => rfl
    | succ m ih => rw [List.replicate_succ', List.flatten_append, ih, List.range_succ, List.map_append]; rfl
  exact e _
structure TabAt (H : Hp) (t : Addr) (rs : List Addr) (m n : Nat) (f : Nat → Nat → Nat) : Prop where
  tb : H t = some (.lst (rs.map V.ref))
  len : rs.length = m + 1
  nd : rs.Nodup
  out : t ∉ rs
  rows : ∀ i a, rs[i]? = some a → H a = some (.lst (rowV n (f i)))
theorem TabAt.get {H : Hp} {t : Addr} {rs : List Addr} {m n : Nat} {f : Nat → Nat → Nat} (T : TabAt H t rs m n f) {i : Nat} (h : i ≤ m) : ∃ a, rs[i]? = some a ∧ (rs.map V.ref)[i]? = some (.ref a) ∧ H a = some (.lst (rowV n (f i))) := by
  have hl : i < rs.length := by rw [T.len]; omega
  have e := List.getElem?_eq_getElem hl
  exact ⟨rs[i], e, by rw [List.getElem?_map, e]; rfl, T.rows i _ e⟩
theorem TabAt.set {H : Hp} {t : Addr} {rs : List Addr} {m n : Nat} {f f' : Nat → Nat → Nat} (T : TabAt H t rs m n f) {i : Nat} {a : Addr} (ha : rs[i]? = some a) {xs : List V} (hx : xs = rowV n (f' i)) (h : ∀ j, j ≠ i → ∀ k, k ≤ n → f' j k = f j k) : TabAt (upd H a (.lst xs)) t rs m n f' := by
  have hm := List.mem_of_getElem? ha
  have hta : t ≠ a := fun e => T.out (e ▸ hm)
  refine ⟨by rw [upd_ne hta]; exact T.tb, T.len, T.nd, T.out, fun j b hb => ?_⟩
  by_cases e : j = i
  · subst e
    rw [ha] at hb; cases hb
    rw [upd_same, hx]
  · have nb : b ≠ a := fun z => e (nd_ix T.nd hb (by rw [z]; exact ha))
    rw [upd_ne nb, T.rows j b hb, rowV_congr fun k hk => (h j e k hk).symm]
theorem TabAt.congr {H : Hp} {t : Addr} {rs : List Addr} {m n : Nat} {f f' : Nat → Nat → Nat} (T : TabAt H t rs m n f) (h : ∀ i k, i ≤ m → k ≤ n → f i k = f' i k) : TabAt H t rs m n f' := by
  refine ⟨T.tb, T.len, T.nd, T.out, fun i a ha => ?_⟩
  rw [T.rows i a ha]
  have hi : i < rs.length := (List.getElem?_eq_some_iff.mp ha).1
  rw [rowV_congr fun k hk => h i k (by rw [T.len] at hi; omega) hk]
theorem TabAt.mono {H H' : Hp} {t : Addr} {rs : List Addr} {m n : Nat} {f : Nat → Nat → Nat} (T : TabAt H t rs m n f) (s : Same H H') : TabAt H' t rs m n f := ⟨s _ _ T.tb, T.len, T.nd, T.out, fun i a ha => s _ _ (T.rows i a ha)⟩
theorem ixN_nat {n k : Nat} (h : k < n) : ixN n ((k : Nat) : Int) = some k := by
  unfold ixN
  rw [if_pos (by omega), if_pos (by omega)]
  rfl
theorem ixN_of {n k : Nat} {z : Int} (e : z = ((k : Nat) : Int)) (h : k < n) : ixN n z = some k := by rw [e]; exact ixN_nat h
section
variable {P : Program} {w : World} {K : PySem.W.Frag} {mg : Str → Option Value} {base : Heap}
def spTable : Sp := fun vs H Q _ => ∃ (a b : Addr) (old new : List Str), vs = [.ref a, .ref b] ∧ LsAt H a old ∧ LsAt H b new ∧ old.length ≤ 1000 ∧ new.length ≤ 1000 ∧
  ∀ t rs H', H t = none → Same H H' → TabAt H' t rs old.length new.length (lt old new) → Q (.ref t) H'
theorem sc_common_table : FnScope ["old", "new", "table", "i", "k", "place"] ["old", "new"] (defScope s_common_table) := ⟨rfl, rfl, rfl, by decide +kernel, rfl, by decide +kernel, by decide +kernel⟩
theorem ls_get {ls : List Str} {i : Nat} {x : Str} (h : ls[i]? = some x) : (ls.map V.str)[i]? = some (.str x) := by rw [List.getElem?_map, h]; rfl
theorem ok_common_table (T : Tx K mg) : Gf P w K mg base CX0 1 (He.ga K "common_table") ["old", "new"] spTable := by
  refine gf0_of T.d_common_table sc_common_table (fun _ _ _ _ _ _ us hl => match us, hl with | [_, _], _ => rfl) (fun vs H Q E h => ?_) (fun cdv A outer s H vs Q E hr h => ?_)
  · obtain ⟨a, b, old, new, rfl, _⟩ := h; rfl
  · obtain ⟨a, b, old, new, rfl, h1, h2, l1, l2, k⟩ := h
    refine ⟨_, pss_cons (ps_setLc (i := 2) (y := "table") (own := [("place", 5)]) (g := gName 5) rfl sc_common_table.nd rfl rfl (sw_true rfl rfl rfl (by decide +kernel)) (pi_range1 rfl T.n_range (pa_cons (pe_op op_add (pe_callB (r := rLen K) call_len rfl T.n_len (by decide +kernel) (pa_cons (pv 0) pa_nil)) pe_int) pa_nil)) (blkOk_by (own := [("place", 5)]) (N := ["old", "new", "table", "i", "k", "place"]) (sc := defScope s_common_table) (by decide +kernel)) (fun _ _ _ _ _ => pg_name (i := 5) sc_common_table.nd rfl (Or.inl rfl)) (fun _ _ _ _ _ => pts_nil) (fun _ _ _ _ _ => (pe_op op_rep (pe_lst (pa_cons pe_int pa_nil)) (pe_op op_add (pe_callB (r := rLen K) call_len rfl T.n_len (by decide +kernel) (pa_cons (pv 1) pa_nil)) pe_int))))
      (pss_cons (ps_for PassesOwn.never rfl (pi_range3 rfl T.n_range (pa_cons (pe_op op_sub (pe_callB (r := rLen K) call_len rfl T.n_len (by decide +kernel) (pa_cons (pv 0) pa_nil)) pe_int) (pa_cons (pe_un un_neg pe_int) (pa_cons (pe_un un_neg pe_int) pa_nil)))) (pg_name (i := 3) sc_common_table.nd rfl (Or.inl rfl))
        (pss_one (ps_for PassesOwn.never rfl (pi_range3 rfl T.n_range (pa_cons (pe_op op_sub (pe_callB (r := rLen K) call_len rfl T.n_len (by decide +kernel) (pa_cons (pv 1) pa_nil)) pe_int) (pa_cons (pe_un un_neg pe_int) (pa_cons (pe_un un_neg pe_int) pa_nil)))) (pg_name (i := 4) sc_common_table.nd rfl (Or.inl rfl))
          (pss_one (ps_if (pt_cmpR op_eq (pe_ix (r := rIxT K) ix_tup (pv 0) (pv 3) (fun _ _ => rfl)) (pe_ix (r := rIxT K) ix_tup (pv 1) (pv 4) (fun _ _ => rfl)) (nomark _))
            (pss_one (ps_asg (pe_op op_add pe_int (pe_ix (r := rIxL K) ix_list (pe_ix (r := rIxL K) ix_list (pv 2) (pe_op op_add (pv 3) pe_int) (fun _ _ => rfl)) (pe_op op_add (pv 4) pe_int) (fun _ _ => rfl))) (pg_sub (pe_ix (r := rIxL K) ix_list (pv 2) (pv 3) (fun _ _ => rfl)) (pv 4) set_list)))
            (pss_one (ps_asg (pe_callB (call_max2 rfl) rfl T.n_max (by decide +kernel) (pa_cons (pe_ix (r := rIxL K) ix_list (pe_ix (r := rIxL K) ix_list (pv 2) (pe_op op_add (pv 3) pe_int) (fun _ _ => rfl)) (pv 4) (fun _ _ => rfl)) (pa_cons (pe_ix (r := rIxL K) ix_list (pe_ix (r := rIxL K) ix_list (pv 2) (pv 3) (fun _ _ => rfl)) (pe_op op_add (pv 4) pe_int) (fun _ _ => rfl)) pa_nil))) (pg_sub (pe_ix (r := rIxL K) ix_list (pv 2) (pv 3) (fun _ _ => rfl)) (pv 4) set_list))))))))
      (pss_one (ps_ret (pv 2)))), ?_⟩
    have eo : (old.map V.str).length = old.length := List.length_map ..
    have en : (new.map V.str).length = new.length := List.length_map ..
    refine ⟨_, rfl, _, _, rfl, .inr ⟨_, SqT.of h1, rfl⟩, _, _, rfl, rfl, _, rfl, ?_, ?_, fun D hD => ?_⟩
    · rw [eo]; omega
    · rw [eo]; omega
    refine lc_it walk_range (fun i H' => ∃ rs : List Addr, Same H H' ∧ H' D = some (.lst (rs.map V.ref)) ∧ rs.length = i ∧ rs.Nodup ∧ D ∉ rs ∧ ∀ c ∈ rs, H c = none ∧ H' c = some (.lst (rowV new.length fun _ => 0)))
      ⟨[], same_new hD, upd_same, rfl, List.nodup_nil, by simp, fun _ h => by cases h⟩ (fun _ _ _ _ => trivial) ?_ ?_
    · rintro i x H1 H2 hi ⟨rs, hs, hd, hl, hnd, hout, hrs⟩ ⟨rfl, rfl⟩
      rw [eo] at hi
      refine ⟨rfl, ?_⟩
      refine ⟨by show 1 ≤ sizeLine; decide, fun p hp => ?_⟩
      have s1 := Same.new (o := .lst [V.int 0]) hs hp
      refine ⟨_, rfl, _, _, rfl, .inr ⟨_, SqT.of (lsm s1 h2), rfl⟩, _, _, rfl, rfl, p, _, _, rfl, rfl, upd_same, ?_, ?_, ?_, fun p2 hp2 => ?_⟩
      · rw [en]; omega
      · rw [en]; omega
      · rw [en]; exact le_line (by show 1 * _ ≤ _; omega)
      have s2 := Same.new (o := .lst (List.replicate ((((new.map V.str).length : Nat) : Int) + 1).toNat [V.int 0]).flatten) s1 hp2
      have hD2 : p2 ≠ D := fun e => by rw [← e] at hd; rw [upd_ne (fun z => ?_)] at hp2; · rw [hd] at hp2; cases hp2
                                       · rw [z, hp] at hd; cases hd
      have hDp : D ≠ p := ne_of_none hd hp
      have hp2' : H2 p2 = none := by
        by_cases z : p2 = p
        · rw [z]; exact hp
        · rw [upd_ne z] at hp2; exact hp2
      refine ⟨rs.map V.ref, ?_, ?_, rs ++ [p2], Same.mut s2 hD, ?_, ?_, ?_, ?_, ?_⟩
      · rw [upd_ne (Ne.symm hD2), upd_ne hDp]; exact hd
      · rw [List.length_map]; exact lt_line (by omega)
      · rw [upd_same, List.map_append]; rfl
      · rw [List.length_append, hl]; rfl
      · refine nd_snoc hnd fun m => ?_
        rw [(hrs p2 m).2] at hp2'; cases hp2'
      · intro m
        rcases List.mem_append.mp m with q | q
        · exact hout q
        · exact hD2 (List.mem_singleton.mp q).symm
      · intro c hc
        rcases List.mem_append.mp hc with q | q
        · obtain ⟨q1, q2⟩ := hrs c q
          refine ⟨q1, ?_⟩
          rw [upd_ne (fun z => hout (by rw [← z]; exact q)), upd_ne (ne_of_none q2 hp2'), upd_ne (ne_of_none q2 hp)]
          exact q2
        · rw [List.mem_singleton.mp q]
          refine ⟨L2.Same.free hs hp2', ?_⟩
          rw [upd_ne hD2, upd_same, en]
          have e : (((new.length : Nat) : Int) + 1).toNat = new.length + 1 := by omega
          rw [e, rowV_zero]
    · rintro H1 ⟨rs, hs, hd, hl, hnd, hout, hrs⟩
      rw [eo] at hl
      have TB : TabAt H1 D rs old.length new.length (fun _ _ => 0) := ⟨hd, by omega, hnd, hout, fun i c hc => (hrs c (List.mem_of_getElem? hc)).2⟩
      have fr : ∀ c ∈ rs, H c = none := fun c hc => (hrs c hc).1
      clear hd hl hnd hout hrs
      refine ⟨_, rfl, _, _, rfl, .inr ⟨_, SqT.of (lsm hs h1), rfl⟩, _, _, rfl, rfl, _, rfl, _, rfl, _, _, _, _, rfl, RgC.neg (by rw [eo]; omega) (by rw [eo]; omega) (by omega) (by omega), ?_⟩
      refine for_it walk_rangeC (fun j σ H' => ∃ (f : Nat → Nat → Nat) (v3 v4 : Option V), σ = [some (.ref a), some (.ref b), some (.ref D), v3, v4, none] ∧ Same H H' ∧ TabAt H' D rs old.length new.length f ∧ ∀ i k, i ≤ old.length → k ≤ new.length → f i k = if old.length - j ≤ i then lt old new i k else 0)
        ⟨_, none, none, rfl, hs, TB, fun i k hi hk => ?_⟩ (fun _ _ _ _ _ => trivial) ?_ ?_
      · by_cases c : old.length - 0 ≤ i
        · rw [if_pos c, lt_end_l (by omega)]
        · rw [if_neg c]
      · rintro j x σ H2 H3 hj ⟨f, v3, v4, rfl, hs, TB, hf⟩ ⟨rfl, ex⟩
        rw [eo] at hj ex
        have hj' : j < old.length := by omega
        obtain ⟨i, ei⟩ : ∃ i, i = old.length - 1 - j := ⟨_, rfl⟩
        have e1 : (((old.length : Nat) : Int) - 1 + (j : Nat) * -1) = ((i : Nat) : Int) := by omega
        obtain rfl : x = V.int ((i : Nat) : Int) := ex.trans (congrArg V.int e1)
        have hi : i < old.length := by omega
        refine ⟨_, rfl, _, _, rfl, .inr ⟨_, SqT.of (lsm hs h2), rfl⟩, _, _, rfl, rfl, _, rfl, _, rfl, _, _, _, _, rfl, RgC.neg (by rw [en]; omega) (by rw [en]; omega) (by omega) (by omega), ?_⟩
        refine for_it walk_rangeC (fun l σ H' => ∃ (g : Nat → Nat → Nat) (v4 : Option V), σ = [some (.ref a), some (.ref b), some (.ref D), some (.int ((i : Nat) : Int)), v4, none] ∧ Same H H' ∧ TabAt H' D rs old.length new.length g ∧ ∀ i' k, i' ≤ old.length → k ≤ new.length → g i' k = if old.length - j ≤ i' then lt old new i' k else if i' = i ∧ new.length - l ≤ k then lt old new i' k else 0)
          ⟨f, v4, rfl, hs, TB, fun i' k hi' hk => ?_⟩ (fun _ _ _ _ _ => trivial) ?_ ?_
        · rw [hf i' k hi' hk]
          by_cases c : old.length - j ≤ i'
          · rw [if_pos c, if_pos c]
          · rw [if_neg c, if_neg c]
            by_cases c2 : i' = i ∧ new.length - 0 ≤ k
            · rw [if_pos c2, lt_end_r (by omega)]
            · rw [if_neg c2]
        · rintro l x σ H4 H5 hl ⟨g, v4, rfl, hs, TB, hg⟩ ⟨rfl, ex⟩
          rw [en] at hl ex
          obtain ⟨q, eq⟩ : ∃ q, q = new.length - 1 - l := ⟨_, rfl⟩
          have e2 : (((new.length : Nat) : Int) - 1 + (l : Nat) * -1) = ((q : Nat) : Int) := by omega
          obtain rfl : x = V.int ((q : Nat) : Int) := ex.trans (congrArg V.int e2)
          have hq : q < new.length := by omega
          have ho := List.getElem?_eq_getElem hi
          have hn := List.getElem?_eq_getElem hq
          have st := lt_step ho hn
          have g11 : g (i + 1) (q + 1) = lt old new (i + 1) (q + 1) := by rw [hg _ _ (by omega) (by omega), if_pos (by omega)]
          have g10 : g (i + 1) q = lt old new (i + 1) q := by rw [hg _ _ (by omega) (by omega), if_pos (by omega)]
          have g01 : g i (q + 1) = lt old new i (q + 1) := by rw [hg _ _ (by omega) (by omega), if_neg (by omega), if_pos (by omega)]
          obtain ⟨ri, hri, hri1, hri2⟩ := TB.get (i := i) (by omega)
          obtain ⟨rj, hrj, hrj1, hrj2⟩ := TB.get (i := i + 1) (by omega)
          have fin : ∀ v : Nat, v = lt old new i q → ∃ (g' : Nat → Nat → Nat) (v4 : Option V), ([some (.ref a), some (.ref b), some (.ref D), some (.int ((i : Nat) : Int)), some (.int ((q : Nat) : Int)), none] : L2.St) = [some (.ref a), some (.ref b), some (.ref D), some (.int ((i : Nat) : Int)), v4, none] ∧ Same H (upd H5 ri (.lst ((rowV new.length (g i)).set q (V.int ((v : Nat) : Int))))) ∧ TabAt (upd H5 ri (.lst ((rowV new.length (g i)).set q (V.int ((v : Nat) : Int))))) D rs old.length new.length g' ∧ ∀ i' k, i' ≤ old.length → k ≤ new.length → g' i' k = if old.length - j ≤ i' then lt old new i' k else if i' = i ∧ new.length - (l + 1) ≤ k then lt old new i' k else 0 := by
            intro v hv
            refine ⟨fun i' k' => if i' = i ∧ k' = q then v else g i' k', _, rfl, Same.mut hs (fr ri (List.mem_of_getElem? hri)), TB.set hri (rowV_set (by omega) fun z hz => ?_) (fun z hz k' hk' => ?_), fun i' k hi' hk => ?_⟩
            · by_cases c : z = q
              · rw [if_pos ⟨rfl, c⟩, if_pos c]
              · rw [if_neg (fun y => c y.2), if_neg c]
            · exact if_neg fun y => hz y.1
            · show (if i' = i ∧ k = q then v else g i' k) = _
              by_cases c : i' = i ∧ k = q
              · rw [if_pos c, if_neg (by omega), if_pos (by omega), hv, c.1, c.2]
              · rw [if_neg c, hg i' k hi' hk]
                by_cases c2 : old.length - j ≤ i'
                · rw [if_pos c2, if_pos c2]
                · rw [if_neg c2, if_neg c2]
                  by_cases c3 : i' = i ∧ new.length - l ≤ k
                  · rw [if_pos c3, if_pos (by omega)]
                  · rw [if_neg c3, if_neg (by omega)]
          refine ⟨_, rfl, _, rfl, a, _, _, _, rfl, rfl, SqT.of (lsm hs h1), atI_nat (ls_get ho), _, rfl, _, rfl, b, _, _, _, rfl, rfl, SqT.of (lsm hs h2), atI_nat (ls_get hn), rfl, _, rfl, ?_⟩
          by_cases c : old[i] = new[q]
          · refine itep (by rw [c]; exact decide_eq_true rfl) ?_
            rw [if_pos c] at st
            refine ⟨_, rfl, _, rfl, _, _, rfl, rfl, D, _, _, _, rfl, rfl, SqL.of TB.tb, at_of (j := i + 1) (by omega) hrj1, _, rfl, _, _, rfl, rfl, rj, _, _, _, rfl, rfl, SqL.of hrj2, at_of (j := q + 1) (by omega) (rowV_get _ (by omega)), _, _, rfl, rfl, ?_⟩
            refine ⟨_, rfl, _, rfl, D, _, _, _, rfl, rfl, SqL.of TB.tb, atI_nat hri1, _, rfl, ri, _, _, _, rfl, rfl, hri2, ixN_nat (by rw [rowV_len]; omega), ?_⟩
            have e3 : (1 : Int) + ((g (i + 1) (q + 1) : Nat) : Int) = ((1 + lt old new (i + 1) (q + 1) : Nat) : Int) := by rw [g11]; omega
            have z := fin _ st.symm
            rw [← e3] at z
            exact z
          · refine iten (ne_s c) ?_
            rw [if_neg c] at st
            refine ⟨_, rfl, _, rfl, _, _, rfl, rfl, D, _, _, _, rfl, rfl, SqL.of TB.tb, at_of (j := i + 1) (by omega) hrj1, _, rfl, rj, _, _, _, rfl, rfl, SqL.of hrj2, atI_nat (rowV_get _ (by omega)), ?_⟩
            refine ⟨_, rfl, _, rfl, D, _, _, _, rfl, rfl, SqL.of TB.tb, atI_nat hri1, _, rfl, _, _, rfl, rfl, ri, _, _, _, rfl, rfl, SqL.of hri2, at_of (j := q + 1) (by omega) (rowV_get _ (by omega)), _, _, rfl, ?_⟩
            refine ⟨_, rfl, _, rfl, D, _, _, _, rfl, rfl, SqL.of TB.tb, atI_nat hri1, _, rfl, ri, _, _, _, rfl, rfl, hri2, ixN_nat (by rw [rowV_len]; omega), ?_⟩
            have e3 : (if ((g i (q + 1) : Nat) : Int) > ((g (i + 1) q : Nat) : Int) then ((g i (q + 1) : Nat) : Int) else ((g (i + 1) q : Nat) : Int)) = ((max (lt old new (i + 1) q) (lt old new i (q + 1)) : Nat) : Int) := by
              rw [g01, g10]; split <;> omega
            have z := fin _ st.symm
            rw [← e3] at z
            exact z
        · rintro σ H4 ⟨g, v4, rfl, hs, TB, hg⟩
          refine ⟨g, _, _, rfl, hs, TB, fun i' k hi' hk => ?_⟩
          rw [hg i' k hi' hk, en]
          have et : ((((new.length : Nat) : Int) - 1) - -1).toNat = new.length := by omega
          rw [et]
          by_cases c : old.length - j ≤ i'
          · rw [if_pos c, if_pos (by omega)]
          · rw [if_neg c]
            by_cases c2 : i' = i
            · rw [if_pos ⟨c2, by omega⟩, if_pos (by omega)]
            · rw [if_neg (fun y => c2 y.1), if_neg (by omega)]
      · rintro σ H2 ⟨f, v3, v4, rfl, hs, TB, hf⟩
        refine ⟨_, rfl, k D rs H2 hD hs (TB.congr fun i k' hi hk => ?_)⟩
        rw [hf i k' hi hk, eo]
        have et : ((((old.length : Nat) : Int) - 1) - -1).toNat = old.length := by omega
        rw [et, if_pos (by omega)]
end
end An

namespace An
open PySem PySem.Spec L2
def PairsAt (H : Hp) : List Addr → List (Nat × Nat) → Prop := Paired fun a p => H a = some (.tup [.int ((p.1 : Nat) : Int), .int ((p.2 : Nat) : Int)])
def SpansAt (H : Hp) : List Addr → List Span → Prop := Paired fun a s => ∃ q, H a = some (.tup [.int ((s.1 : Nat) : Int), .int ((s.2.1 : Nat) : Int), .ref q]) ∧ LsAt H q s.2.2
theorem PairsAt.mono {H H' : Hp} (s : Tups H H') {as : List Addr} {ps : List (Nat × Nat)} (h : PairsAt H as ps) : PairsAt H' as ps := Paired.mapP h fun _ _ e => s _ _ e
theorem SpansAt.mono {H H' : Hp} (s : Tups H H') {as : List Addr} {ps : List Span} (h : SpansAt H as ps) : SpansAt H' as ps := Paired.mapP h fun _ _ ⟨q, e1, e2⟩ => ⟨q, s _ _ e1, s _ _ e2⟩
theorem tups_lst {H : Hp} {p : Addr} {xs : List V} {o : HO} (h : H p = some (.lst xs)) : Tups H (upd H p o) := fun b ys e => by
  rw [upd_ne (ne_of e h (fun z => nomatch z))]; exact e
theorem tups_dk {H : Hp} {p : Addr} {xs : List (Key × V)} {o : HO} (h : H p = some (.dK xs)) : Tups H (upd H p o) := fun b ys e => by
  rw [upd_ne (ne_of e h (fun z => nomatch z))]; exact e
theorem tups_new {H : Hp} {p : Addr} {o : HO} (h : H p = none) : Tups H (upd H p o) := tups_of (same_new h)
theorem cut_seg {ls : List Str} {a b : Nat} (hb : b ≤ ls.length) : cutV (ls.map V.str) (some ((a : Nat) : Int)) (some ((b : Nat) : Int)) = (seg ls a b).map V.str := by
  unfold cutV seg
  rw [HT.sIx_nat, HT.sIx_nat, List.length_map, List.map_take, List.map_drop, Nat.min_eq_left hb]
  by_cases h : a ≤ ls.length
  · rw [Nat.min_eq_left h]
  · rw [Nat.min_eq_right (by omega), show b - ls.length = 0 by omega, show b - a = 0 by omega]; rfl
theorem cut_drop {ls : List Str} {a : Nat} : cutV (ls.map V.str) (some ((a : Nat) : Int)) none = (ls.drop a).map V.str := by
  unfold cutV
  rw [HT.sIx_nat, HT.sIx_none, List.length_map, List.map_drop]
  by_cases h : a ≤ ls.length
  · rw [Nat.min_eq_left h]
    exact List.take_of_length_le (by rw [List.length_drop, List.length_map]; omega)
  · rw [Nat.min_eq_right (by omega), List.drop_eq_nil_of_le (by rw [List.length_map]; exact Nat.le_refl _), List.drop_eq_nil_of_le (by rw [List.length_map]; omega), List.take_nil]
theorem cut_whole {xs : List V} {lo hi : Option Int} (h : HT.sIx xs.length 0 lo = 0 ∧ HT.sIx xs.length xs.length hi = xs.length) : cutV xs lo hi = xs := by
  unfold cutV
  rw [h.1, h.2]
  simp
/-- a slice of a tuple of lines -/
theorem slA_ls {K : PySem.W.Frag} {H : Hp} {Q : VK} {a : Addr} {ls out : List Str} {lo hi : Option Int} (h : LsAt H a ls) (e : cutV (ls.map V.str) lo hi = out.map V.str) (k : ∀ q H', Same H H' → LsAt H' q out → Q (.ref q) H') : rSlA K (.ref a) lo hi H Q := by
  refine ⟨a, _, rfl, SqT.of h, fun w => k a H (Same.refl H) ?_, fun _ p hp => k p _ (same_new hp) ?_⟩
  · rw [cut_whole w] at e
    show H a = _
    rw [← e]; exact h
  · show upd H p _ p = _
    rw [upd_same, e]
theorem drop_cons {α : Type} {l : List α} {j : Nat} {x : α} (h : l[j]? = some x) : l.drop j = x :: l.drop (j + 1) := by
  obtain ⟨h1, e⟩ := List.getElem?_eq_some_iff.mp h
  rw [List.drop_eq_getElem_cons h1, e]
theorem rise_all {old new : List Str} : ∀ {ps : List (Nat × Nat)} {i k : Nat}, Rise old new i k ps → ∀ p ∈ ps, p.1 < old.length ∧ p.2 < new.length
  | [], _, _, _, _, h => by cases h
  | q :: r, i, k, ⟨_, _, h3, h4⟩, p, h => by
    rcases List.mem_cons.mp h with e | e
    · rw [e]; exact rise_lt h3
    · exact rise_all h4 p e
section
variable {P : Program} {w : World} {K : PySem.W.Frag} {mg : Str → Option Value} {base : Heap}
/-! ### kept_pairs -/
def spKept : Sp := fun vs H Q _ => ∃ (a b : Addr) (old new : List Str), vs = [.ref a, .ref b] ∧ LsAt H a old ∧ LsAt H b new ∧ old.length ≤ 1000 ∧ new.length ≤ 1000 ∧
  ∀ p as H', H p = none → Same H H' → H' p = some (.lst (as.map V.ref)) → PairsAt H' as (keptPairs old new) → Q (.ref p) H'
theorem sc_kept_pairs : FnScope ["old", "new", "table", "pairs", "i", "k"] ["old", "new"] (defScope s_kept_pairs) := ⟨rfl, rfl, rfl, by decide +kernel, rfl, by decide +kernel, by decide +kernel⟩
theorem ok_kept_pairs (T : Tx K mg) : Gf P w K mg base CX0 2 (He.ga K "kept_pairs") ["old", "new"] spKept := by
  have G_common_table : Gf P w K mg base CX0 1 _ _ spTable := ok_common_table T
  refine gf0_of T.d_kept_pairs sc_kept_pairs (fun _ _ _ _ _ _ us hl => match us, hl with | [_, _], _ => rfl) (fun vs H Q E h => ?_) (fun cdv A outer s H vs Q E hr h => ?_)
  · obtain ⟨a, b, old, new, rfl, _⟩ := h; rfl
  · obtain ⟨a, b, old, new, rfl, h1, h2, l1, l2, k⟩ := h
    refine ⟨_, pss_cons (ps_set (i := 2) sc_kept_pairs.nd rfl (Or.inl rfl) (pe_fn G_common_table (hr.mono (by decide)) T.g_common_table pass0 (pa_cons (pv 0) (pa_cons (pv 1) pa_nil))))
      (pss_cons (ps_set (i := 3) sc_kept_pairs.nd rfl (Or.inl rfl) (pe_lst pa_nil))
      (pss_cons (ps_set (i := 4) sc_kept_pairs.nd rfl (Or.inl rfl) pe_int)
      (pss_cons (ps_set (i := 5) sc_kept_pairs.nd rfl (Or.inl rfl) pe_int)
      (pss_cons (ps_while PassesOwn.never (PW.pt (pw_and (pt_cmpR op_lt (pv 4) (pe_callB (r := rLen K) call_len rfl T.n_len (by decide +kernel) (pa_cons (pv 0) pa_nil)) (nomark _)) (pw_and1 (pt_cmpR op_lt (pv 5) (pe_callB (r := rLen K) call_len rfl T.n_len (by decide +kernel) (pa_cons (pv 1) pa_nil)) (nomark _)))))
        (pss_one (ps_if (pt_cmpR op_eq (pe_ix (r := rIxT K) ix_tup (pv 0) (pv 4) (fun _ _ => rfl)) (pe_ix (r := rIxT K) ix_tup (pv 1) (pv 5) (fun _ _ => rfl)) (nomark _))
          (pss_cons (ps_expr (pe_bm PySem.F.plainAttrs_list PySem.F.slot_list_append PySem.F.type_list_append mt_append (pv 3) (pa_cons (pe_tup (pa_cons (pv 4) (pa_cons (pv 5) pa_nil))) pa_nil)))
          (pss_cons (ps_set (i := 4) sc_kept_pairs.nd rfl (Or.inl rfl) (pe_op op_add (pv 4) pe_int))
          (pss_one (ps_set (i := 5) sc_kept_pairs.nd rfl (Or.inl rfl) (pe_op op_add (pv 5) pe_int)))))
          (pss_one (ps_if (pt_cmpR op_ge (pe_ix (r := rIxL K) ix_list (pe_ix (r := rIxL K) ix_list (pv 2) (pe_op op_add (pv 4) pe_int) (fun _ _ => rfl)) (pv 5) (fun _ _ => rfl)) (pe_ix (r := rIxL K) ix_list (pe_ix (r := rIxL K) ix_list (pv 2) (pv 4) (fun _ _ => rfl)) (pe_op op_add (pv 5) pe_int) (fun _ _ => rfl)) (nomark _))
            (pss_one (ps_set (i := 4) sc_kept_pairs.nd rfl (Or.inl rfl) (pe_op op_add (pv 4) pe_int)))
            (pss_one (ps_set (i := 5) sc_kept_pairs.nd rfl (Or.inl rfl) (pe_op op_add (pv 5) pe_int))))))))
      (pss_one (ps_ret (pv 3))))))), ?_⟩
    have eo : (old.map V.str).length = old.length := List.length_map ..
    have en : (new.map V.str).length = new.length := List.length_map ..
    refine ⟨_, rfl, _, rfl, a, b, old, new, rfl, h1, h2, l1, l2, fun t rs H1 ht s1 TB => ?_⟩
    refine ⟨Nat.zero_le _, fun p hp => ?_⟩
    refine ⟨fun m σ H' => ∃ (i k f : Nat) (acc : List (Nat × Nat)) (as : List Addr), σ = [some (.ref a), some (.ref b), some (.ref t), some (.ref p), some (.int ((i : Nat) : Int)), some (.int ((k : Nat) : Int))] ∧ Same H1 H' ∧ H' p = some (.lst (as.map V.ref)) ∧ PairsAt H' as acc ∧
      acc ++ kept old new f i k = keptPairs old new ∧ old.length + new.length ≤ f + i + k ∧ i ≤ old.length ∧ k ≤ new.length ∧ m = old.length + new.length - (i + k), ⟨_, 0, 0, old.length + new.length, [], [], rfl, same_new hp, upd_same, .nil, rfl, by omega, by omega, by omega, rfl⟩, ?_⟩
    rintro m σ H2 ⟨i, q, f, acc, as, rfl, hs, hd, hp2, hk, hf, hi, hq, hm⟩
    have g1 : LsAt H2 a old := lsm (Same.trans s1 hs) h1
    have g2 : LsAt H2 b new := lsm (Same.trans s1 hs) h2
    have done : ¬ (i < old.length ∧ q < new.length) → Q (.ref p) H2 := fun c => by
      rw [kept_end c, List.append_nil] at hk
      rw [hk] at hp2
      exact k p as H2 (L2.Same.free s1 hp) (Same.trans s1 hs) hd hp2
    refine ⟨_, rfl, _, rfl, _, _, rfl, .inr ⟨_, SqT.of g1, rfl⟩, _, _, rfl, rfl, _, rfl, ?_⟩
    rw [eo]
    by_cases c1 : i < old.length
    · refine itep (decide_eq_true (by omega)) ?_
      refine ⟨_, rfl, _, rfl, _, _, rfl, .inr ⟨_, SqT.of g2, rfl⟩, _, _, rfl, rfl, _, rfl, ?_⟩
      rw [en]
      by_cases c2 : q < new.length
      · refine itep (decide_eq_true (by omega)) ?_
        refine ⟨fun σ' H' => ∃ m', m' < m ∧ ∃ (i k f : Nat) (acc : List (Nat × Nat)) (as : List Addr), σ' = [some (.ref a), some (.ref b), some (.ref t), some (.ref p), some (.int ((i : Nat) : Int)), some (.int ((k : Nat) : Int))] ∧ Same H1 H' ∧ H' p = some (.lst (as.map V.ref)) ∧ PairsAt H' as acc ∧
          acc ++ kept old new f i k = keptPairs old new ∧ old.length + new.length ≤ f + i + k ∧ i ≤ old.length ∧ k ≤ new.length ∧ m' = old.length + new.length - (i + k), fun _ _ h => h, ?_⟩
        have ho := List.getElem?_eq_getElem c1
        have hn := List.getElem?_eq_getElem c2
        obtain ⟨f', rfl⟩ : ∃ f', f = f' + 1 := ⟨f - 1, by omega⟩
        rw [kept_at ho hn] at hk
        refine ⟨_, rfl, _, rfl, a, _, _, _, rfl, rfl, SqT.of g1, atI_nat (ls_get ho), _, rfl, _, rfl, b, _, _, _, rfl, rfl, SqT.of g2, atI_nat (ls_get hn), rfl, _, rfl, ?_⟩
        by_cases c : old[i] = new[q]
        · refine itep (by rw [c]; exact decide_eq_true rfl) ?_
          rw [if_pos c] at hk
          refine ⟨_, rfl, Or.inl ⟨rfl, _, SqL.of hd⟩, _, rfl, _, rfl, by show 2 ≤ sizeLine; decide, fun u hu => ?_⟩
          have npu : p ≠ u := ne_of_none hd hu
          have hd' : upd H2 u (.tup [V.int ((i : Nat) : Int), V.int ((q : Nat) : Int)]) p = some (.lst (as.map V.ref)) := by rw [upd_ne npu]; exact hd
          have ela := Paired.length hp2
          have elk : acc.length ≤ 3000 := by
            have e := congrArg List.length hk
            have kl := kept_len old new (old.length + new.length) 0 0
            unfold keptPairs at e
            rw [List.length_append] at e
            omega
          refine ⟨p, _, _, rfl, rfl, hd', lt_line (by rw [List.length_map]; omega), ?_⟩
          refine ⟨_, rfl, _, _, rfl, rfl, _, rfl, _, _, rfl, rfl, ?_⟩
          refine ⟨_, ?_, i + 1, q + 1, f', acc ++ [(i, q)], as ++ [u], rfl, Same.mut (Same.new hs hu) hp, ?_, ?_, ?_, by omega, by omega, by omega, rfl⟩
          · omega
          · rw [upd_same, List.map_append]; rfl
          · exact PairsAt.mono (tups_lst hd') (paired_snoc (PairsAt.mono (tups_new hu) hp2) upd_same)
          · rw [List.append_assoc]; exact hk
        · refine iten (ne_s c) ?_
          rw [if_neg c] at hk
          obtain ⟨ri, hri, hri1, hri2⟩ := (TB.mono hs).get (i := i) (by omega)
          obtain ⟨rj, hrj, hrj1, hrj2⟩ := (TB.mono hs).get (i := i + 1) (by omega)
          refine ⟨_, rfl, _, rfl, _, _, rfl, rfl, t, _, _, _, rfl, rfl, SqL.of (hs _ _ TB.tb), at_of (j := i + 1) (by omega) hrj1, _, rfl, rj, _, _, _, rfl, rfl, SqL.of hrj2, atI_nat (rowV_get _ (by omega)), ?_⟩
          refine ⟨_, rfl, _, rfl, t, _, _, _, rfl, rfl, SqL.of (hs _ _ TB.tb), atI_nat hri1, _, rfl, _, _, rfl, rfl, ri, _, _, _, rfl, rfl, SqL.of hri2, at_of (j := q + 1) (by omega) (rowV_get _ (by omega)), _, _, rfl, rfl, _, rfl, ?_⟩
          by_cases c3 : lt old new i (q + 1) ≤ lt old new (i + 1) q
          · refine itep (decide_eq_true (by omega)) ?_
            rw [if_pos c3] at hk
            refine ⟨_, rfl, _, _, rfl, rfl, ?_⟩
            exact ⟨_, by omega, i + 1, q, f', acc, as, rfl, hs, hd, hp2, hk, by omega, by omega, by omega, rfl⟩
          · refine iten (by simp; omega) ?_
            rw [if_neg c3] at hk
            refine ⟨_, rfl, _, _, rfl, rfl, ?_⟩
            exact ⟨_, by omega, i, q + 1, f', acc, as, rfl, hs, hd, hp2, hk, by omega, by omega, by omega, rfl⟩
      · refine iten (by simp; omega) ?_
        exact ⟨_, rfl, done (by omega)⟩
    · refine iten (by simp; omega) ?_
      exact ⟨_, rfl, done (by omega)⟩
/-! ### spans_of -/
def spSpans : Sp := fun vs H Q _ => ∃ (a b : Addr) (old new : List Str), vs = [.ref a, .ref b] ∧ LsAt H a old ∧ LsAt H b new ∧ old.length ≤ 1000 ∧ new.length ≤ 1000 ∧
  ∀ p as H', H p = none → Same H H' → H' p = some (.lst (as.map V.ref)) → SpansAt H' as (spansOf old new) → Q (.ref p) H'
theorem sc_spans_of : FnScope ["old", "new", "found", "low", "first", "i", "k"] ["old", "new"] (defScope s_spans_of) := ⟨rfl, rfl, rfl, by decide +kernel, rfl, by decide +kernel, by decide +kernel⟩
theorem ok_spans_of (T : Tx K mg) : Gf P w K mg base CX0 3 (He.ga K "spans_of") ["old", "new"] spSpans := by
  have G_kept_pairs : Gf P w K mg base CX0 2 _ _ spKept := ok_kept_pairs T
  refine gf0_of T.d_spans_of sc_spans_of (fun _ _ _ _ _ _ us hl => match us, hl with | [_, _], _ => rfl) (fun vs H Q E h => ?_) (fun cdv A outer s H vs Q E hr h => ?_)
  · obtain ⟨a, b, old, new, rfl, _⟩ := h; rfl
  · obtain ⟨a, b, old, new, rfl, h1, h2, l1, l2, k⟩ := h
    refine ⟨_, pss_cons (ps_set (i := 2) sc_spans_of.nd rfl (Or.inl rfl) (pe_lst pa_nil))
      (pss_cons (ps_set (i := 3) sc_spans_of.nd rfl (Or.inl rfl) pe_int)
      (pss_cons (ps_set (i := 4) sc_spans_of.nd rfl (Or.inl rfl) pe_int)
      (pss_cons (ps_for PassesOwn.never rfl (pi_list (pe_op op_cat (pe_fn G_kept_pairs (hr.mono (by decide)) T.g_kept_pairs pass0 (pa_cons (pv 0) (pa_cons (pv 1) pa_nil))) (pe_lst (pa_cons (pe_tup (pa_cons (pe_callB (r := rLen K) call_len rfl T.n_len (by decide +kernel) (pa_cons (pv 0) pa_nil)) (pa_cons (pe_callB (r := rLen K) call_len rfl T.n_len (by decide +kernel) (pa_cons (pv 1) pa_nil)) pa_nil))) pa_nil)))) (pg_tup rfl (pgs_cons (pg_name (i := 5) sc_spans_of.nd rfl (Or.inl rfl)) (pgs_cons (pg_name (i := 6) sc_spans_of.nd rfl (Or.inl rfl)) pgs_nil)))
        (pss_cons (ps_if (PW.pt (pw_or (pt_cmpR op_lt (pv 3) (pv 5) (nomark _)) (pw_or1 (pt_cmpR op_lt (pv 4) (pv 6) (nomark _)))))
          (pss_one (ps_expr (pe_bm PySem.F.plainAttrs_list PySem.F.slot_list_append PySem.F.type_list_append mt_append (pv 2) (pa_cons (pe_tup (pa_cons (pv 3) (pa_cons (pv 5) (pa_cons (pe_callTy (r := rTupK K) call_tuple_of rfl T.n_tuple (by decide +kernel) (pa_cons (pe_slice (r := rSlA K) sl_tupA (pv 1) (po_some (pv 4)) (po_some (pv 6))) pa_nil)) pa_nil)))) pa_nil))))
          (pss_nil))
        (pss_cons (ps_set (i := 3) sc_spans_of.nd rfl (Or.inl rfl) (pe_op op_add (pv 5) pe_int))
        (pss_one (ps_set (i := 4) sc_spans_of.nd rfl (Or.inl rfl) (pe_op op_add (pv 6) pe_int))))))
      (pss_one (ps_ret (pv 2)))))), ?_⟩
    have eo : (old.map V.str).length = old.length := List.length_map ..
    have en : (new.map V.str).length = new.length := List.length_map ..
    refine ⟨Nat.zero_le _, fun fd hfd => ?_⟩
    have s0 := same_new (o := .lst []) hfd
    refine ⟨_, rfl, _, rfl, a, b, old, new, rfl, lsm s0 h1, lsm s0 h2, l1, l2, fun p as H1 hp s1 hd1 hps => ?_⟩
    have g1 := lsm s1 (lsm s0 h1)
    have g2 := lsm s1 (lsm s0 h2)
    have hfd1 : H1 fd = some (.lst []) := s1 _ _ upd_same
    refine ⟨_, rfl, _, _, rfl, .inr ⟨_, SqT.of g1, rfl⟩, _, rfl, _, _, rfl, .inr ⟨_, SqT.of g2, rfl⟩, by show 2 ≤ sizeLine; decide, fun u hu => ?_⟩
    refine ⟨by show 1 ≤ sizeLine; decide, fun p2 hp2 => ?_⟩
    have s2 := same_new (o := .tup [V.int (((old.map V.str).length : Nat) : Int), V.int (((new.map V.str).length : Nat) : Int)]) hu
    have s3 := Same.new (o := .lst [V.ref u]) s2 hp2
    have ela := Paired.length hps
    have kl : (keptPairs old new).length ≤ 2000 := Nat.le_trans (kept_len old new _ 0 0) (by omega)
    refine ⟨p, p2, _, _, rfl, rfl, s3 _ _ hd1, upd_same, le_line (by rw [List.length_map]; show _ + 1 ≤ _; omega), fun p3 hp3 => ?_⟩
    have s4 := Same.new (o := .lst (as.map V.ref ++ [V.ref u])) s3 hp3
    obtain ⟨H2, e2⟩ : ∃ H2, H2 = upd (upd (upd H1 u (.tup [V.int (((old.map V.str).length : Nat) : Int), V.int (((new.map V.str).length : Nat) : Int)])) p2 (.lst [V.ref u])) p3 (.lst (as.map V.ref ++ [V.ref u])) := ⟨_, rfl⟩
    have hL : H2 p3 = some (.lst ((as ++ [u]).map V.ref)) := by rw [e2, upd_same, List.map_append]; rfl
    have sH2 : Same (upd H fd (.lst [])) H2 := by rw [e2]; exact Same.trans s1 s4
    have hps2 : PairsAt H2 (as ++ [u]) (keptPairs old new ++ [(old.length, new.length)]) := by
      have s12 : Same H1 H2 := by rw [e2]; exact s4
      refine paired_snoc (PairsAt.mono (tups_of s12) hps) ?_
      have nu2 : u ≠ p2 := ne_of_none upd_same hp2
      have nu3 : u ≠ p3 := ne_of_none (by rw [upd_ne nu2]; exact upd_same) hp3
      rw [e2, upd_ne nu3, upd_ne nu2, upd_same, eo, en]
    rw [← e2]
    clear e2 s4 s3 s2 hp3 hp2
    have all2 : ∀ q ∈ keptPairs old new ++ [(old.length, new.length)], q.2 ≤ new.length := fun q hq => by
      rcases List.mem_append.mp hq with z | z
      · exact Nat.le_of_lt (rise_all (kept_rise old new _ 0 0) q z).2
      · rw [List.mem_singleton.mp z]; exact Nat.le_refl _
    obtain ⟨ps, eps⟩ : ∃ ps, ps = keptPairs old new ++ [(old.length, new.length)] := ⟨_, rfl⟩
    have espn : spansGo new ps 0 0 = spansOf old new := by rw [eps]; rfl
    rw [← eps] at hps2 all2
    have elp := Paired.length hps2
    have kl2 : ps.length ≤ 2001 := by rw [eps, List.length_append]; show _ + 1 ≤ _; omega
    refine ⟨p3, rfl, ⟨_, SqL.of hL⟩, for_it walk_list (fun j σ H' => ∃ (low first : Nat) (v5 v6 : Option V) (fs : List Addr) (acc : List Span), σ = [some (.ref a), some (.ref b), some (.ref fd), some (.int ((low : Nat) : Int)), some (.int ((first : Nat) : Int)), v5, v6] ∧ But (fun c => c = fd) H2 H' ∧ Same H H' ∧ H' fd = some (.lst (fs.map V.ref)) ∧ SpansAt H' fs acc ∧ acc ++ spansGo new (ps.drop j) low first = spansOf old new)
      ⟨0, 0, none, none, [], [], rfl, But.refl _ _, fun c o e => sH2 _ _ (s0 _ _ e), sH2 _ _ upd_same, .nil, by rw [List.drop_zero]; exact espn⟩ (fun _ _ _ _ ⟨_, _, _, _, _, _, _, q, _⟩ => SqL.of (q _ _ (fun z => by rw [z, sH2 _ _ upd_same] at hL; cases as <;> cases hL) hL)) ?_ ?_⟩
    · rintro j x σ H3 H4 hj ⟨low, first, v5, v6, fs, acc, rfl, hb, hs, hd, hsp, hacc⟩ ⟨rfl, hx⟩
      obtain ⟨c, hc, rfl⟩ := map_get hx
      obtain ⟨⟨pi, pk⟩, hr1, hr2⟩ := paired_get hps2 hc
      have hc3 : H4 c = some (.tup [.int ((pi : Nat) : Int), .int ((pk : Nat) : Int)]) := hb _ _ (fun z => by have z' := hr2; rw [z, sH2 _ _ upd_same] at z'; cases z') hr2
      have pkn : pk ≤ new.length := all2 _ (List.mem_of_getElem? hr1)
      rw [drop_cons hr1, spansGo] at hacc
      refine ⟨c, _, rfl, SqT.of hc3, rfl, _, _, rfl, _, _, rfl, rfl, ?_⟩
      have cont : ∀ (H5 : Hp) (fs' : List Addr) (acc' : List Span), But (fun c => c = fd) H2 H5 → Same H H5 → H5 fd = some (.lst (fs'.map V.ref)) → SpansAt H5 fs' acc' → acc' ++ spansGo new (ps.drop (j + 1)) (pi + 1) (pk + 1) = spansOf old new →
        ∃ (low first : Nat) (v5 v6 : Option V) (fs : List Addr) (acc : List Span), ([some (.ref a), some (.ref b), some (.ref fd), some (.int (((pi : Nat) : Int) + 1)), some (.int (((pk : Nat) : Int) + 1)), some (.int ((pi : Nat) : Int)), some (.int ((pk : Nat) : Int))] : L2.St) = [some (.ref a), some (.ref b), some (.ref fd), some (.int ((low : Nat) : Int)), some (.int ((first : Nat) : Int)), v5, v6] ∧ But (fun c => c = fd) H2 H5 ∧ Same H H5 ∧ H5 fd = some (.lst (fs.map V.ref)) ∧ SpansAt H5 fs acc ∧ acc ++ spansGo new (ps.drop (j + 1)) low first = spansOf old new :=
        fun H5 fs' acc' b1 b2 b3 b4 b5 => ⟨pi + 1, pk + 1, _, _, fs', acc', rfl, b1, b2, b3, b4, b5⟩
      have yes : (low < pi ∨ first < pk) → ∀ D : Ends, (∀ (H5 : Hp) (fs' : List Addr) (acc' : List Span), But (fun c => c = fd) H2 H5 → Same H H5 → H5 fd = some (.lst (fs'.map V.ref)) → SpansAt H5 fs' acc' → acc' ++ spansGo new (ps.drop (j + 1)) (pi + 1) (pk + 1) = spansOf old new →
          D.nx [some (.ref a), some (.ref b), some (.ref fd), some (.int ((low : Nat) : Int)), some (.int ((first : Nat) : Int)), some (.int ((pi : Nat) : Int)), some (.int ((pk : Nat) : Int))] H5) →
          (tDrop (tBM K "list" rAppend (tVar 2) (tCons (tTup (tCons (tVar 3) (tCons (tVar 5) (tCons (tCB (rTupK K) (tCons (tSl (rSlA K) (tVar 1) (tPart (tVar 4)) (tPart (tVar 6))) tNil)) tNil)))) tNil))) D
          [some (.ref a), some (.ref b), some (.ref fd), some (.int ((low : Nat) : Int)), some (.int ((first : Nat) : Int)), some (.int ((pi : Nat) : Int)), some (.int ((pk : Nat) : Int))] H4 := by
        intro c D kk
        rw [if_pos c] at hacc
        have g4 : LsAt H4 b new := hs _ _ h2
        refine ⟨_, rfl, Or.inl ⟨rfl, _, SqL.of hd⟩, _, rfl, _, rfl, _, rfl, _, rfl, _, rfl, _, rfl, _, rfl, slA_ls g4 (cut_seg pkn) fun q H5 s5 hq => ?_⟩
        refine ⟨q, _, rfl, .inr ⟨SqT.of hq, by show 3 ≤ sizeLine; decide, fun u5 hu5 => ?_⟩⟩
        have hd5 := s5 _ _ hd
        have nfu : fd ≠ u5 := ne_of_none hd5 hu5
        have hd6 : upd H5 u5 (.tup [V.int ((low : Nat) : Int), V.int ((pi : Nat) : Int), V.ref q]) fd = some (.lst (fs.map V.ref)) := by rw [upd_ne nfu]; exact hd5
        have ecl : acc.length ≤ 3000 := by
          have e := congrArg List.length hacc
          have sl := spansOf_len old new
          rw [List.length_append] at e
          omega
        have elf := Paired.length hsp
        refine ⟨fd, _, _, rfl, rfl, hd6, lt_line (by rw [List.length_map]; omega), kk _ (fs ++ [u5]) (acc ++ [(low, pi, seg new first pk)]) (But.put (But.new (But.trans hb (But.of s5)) hu5) rfl) (Same.mut (Same.new (Same.trans hs s5) hu5) hfd) ?_ ?_ ?_⟩
        · rw [upd_same, List.map_append]; rfl
        · refine SpansAt.mono (tups_lst hd6) (paired_snoc (SpansAt.mono (Tups.trans (tups_of s5) (tups_new hu5)) hsp) ⟨q, upd_same, ?_⟩)
          show upd H5 u5 _ q = _
          rw [upd_ne (ne_of_none hq hu5)]; exact hq
        · rw [List.append_assoc]; exact hacc
      have rest : ∀ (H5 : Hp) (fs' : List Addr) (acc' : List Span), But (fun c => c = fd) H2 H5 → Same H H5 → H5 fd = some (.lst (fs'.map V.ref)) → SpansAt H5 fs' acc' → acc' ++ spansGo new (ps.drop (j + 1)) (pi + 1) (pk + 1) = spansOf old new →
          (tSeq (tAsg (tOp (rI0 fun i j => V.int (i + j)) (tVar 5) (tC (V.int 1))) (gName 3)) (tAsg (tOp (rI0 fun i j => V.int (i + j)) (tVar 6) (tC (V.int 1))) (gName 4))) { nx := fun σ H' => ∃ (low first : Nat) (v5 v6 : Option V) (fs : List Addr) (acc : List Span), σ = [some (.ref a), some (.ref b), some (.ref fd), some (.int ((low : Nat) : Int)), some (.int ((first : Nat) : Int)), v5, v6] ∧ But (fun c => c = fd) H2 H' ∧ Same H H' ∧ H' fd = some (.lst (fs.map V.ref)) ∧ SpansAt H' fs acc ∧ acc ++ spansGo new (ps.drop (j + 1)) low first = spansOf old new, rt := fun _ _ => False }
          [some (.ref a), some (.ref b), some (.ref fd), some (.int ((low : Nat) : Int)), some (.int ((first : Nat) : Int)), some (.int ((pi : Nat) : Int)), some (.int ((pk : Nat) : Int))] H5 :=
        fun H5 fs' acc' b1 b2 b3 b4 b5 => ⟨_, rfl, _, _, rfl, rfl, _, rfl, _, _, rfl, rfl, cont H5 fs' acc' b1 b2 b3 b4 b5⟩
      refine ⟨_, rfl, _, rfl, _, _, rfl, rfl, _, rfl, ?_⟩
      by_cases c1 : low < pi
      · refine itep (decide_eq_true (by omega)) ?_
        exact yes (.inl c1) _ rest
      · refine iten (by simp; omega) ?_
        refine ⟨_, rfl, _, rfl, _, _, rfl, rfl, _, rfl, ?_⟩
        by_cases c2 : first < pk
        · refine itep (decide_eq_true (by omega)) ?_
          exact yes (.inr c2) _ rest
        · refine iten (by simp; omega) ?_
          rw [if_neg (by omega)] at hacc
          exact rest H4 fs acc hb hs hd hsp hacc
    · rintro σ H3 ⟨low, first, v5, v6, fs, acc, rfl, hb, hs, hd, hsp, hacc⟩
      have e : ((as ++ [u]).map V.ref).length = ps.length := by rw [List.length_map]; exact elp
      rw [e, List.drop_length, spansGo, List.append_nil] at hacc
      rw [hacc] at hsp
      exact ⟨_, rfl, k fd fs H3 hfd hs hd hsp⟩
end
end An

namespace An
open PySem PySem.Spec L2
theorem spok_bound {n : Nat} : ∀ {sp : List Span} {least : Nat}, SpOk n sp least → ∀ s ∈ sp, s.1 ≤ s.2.1 ∧ s.2.1 ≤ n
  | [], _, _, _, h => by cases h
  | q :: r, least, ⟨h1, h2, h3, h4, h5⟩, s, h => by
    rcases List.mem_cons.mp h with e | e
    · rw [e]; exact ⟨h2, h3⟩
    · exact spok_bound h5 s e
section
variable {P : Program} {w : World} {K : PySem.W.Frag} {mg : Str → Option Value} {base : Heap}
/-! ### cost_of -/
def spCost : Sp := fun vs H Q _ => ∃ (r : Addr) (as : List Addr) (sp : List Span), vs = [.ref r] ∧ H r = some (.lst (as.map V.ref)) ∧ SpansAt H as sp ∧ sp.length ≤ 5000 ∧ (∀ s ∈ sp, s.2.2.length ≤ 5000) ∧
  ∀ H', Same H H' → Q (.int ((costOf sp : Nat) : Int)) H'
theorem sc_cost_of : FnScope ["rows", "low", "high", "lines"] ["rows"] (defScope s_cost_of) := ⟨rfl, rfl, rfl, by decide +kernel, rfl, by decide +kernel, by decide +kernel⟩
theorem sum_nat (l : List Nat) : (l.map fun n => ((n : Nat) : Int)).sum = ((l.sum : Nat) : Int) := by
  induction l with
  | nil => rfl
  | cons a r ih => rw [List.map_cons, List.sum_cons, List.sum_cons, ih]; omega
theorem ok_cost_of (T : Tx K mg) : Gf P w K mg base CX0 1 (He.ga K "cost_of") ["rows"] spCost := by
  refine gf0_of T.d_cost_of sc_cost_of (fun _ _ _ _ _ _ us hl => match us, hl with | [_], _ => rfl) (fun vs H Q E h => ?_) (fun cdv A outer s H vs Q E hr h => ?_)
  · obtain ⟨r, as, sp, rfl, _⟩ := h; rfl
  · obtain ⟨r, as, sp, rfl, h1, h2, l1, l2, k⟩ := h
    refine ⟨_, pss_one (ps_ret (pe_callB (r := rSum K) (cr_sum rfl) rfl T.n_sum (by decide +kernel) (pa_cons (pe_lc (own := [("low", 1), ("high", 2), ("lines", 3)]) (g := gTup K 3 (gCons (gName 1) (gCons (gName 2) (gCons (gName 3) gNil)))) rfl sc_cost_of.nd (pi_list (pv 0)) (blkOk_by (own := [("low", 1), ("high", 2), ("lines", 3)]) (N := ["rows", "low", "high", "lines"]) (sc := defScope s_cost_of) (by decide +kernel)) (fun _ _ _ _ _ => pg_tup rfl (pgs_cons (pg_name (i := 1) sc_cost_of.nd rfl (Or.inl rfl)) (pgs_cons (pg_name (i := 2) sc_cost_of.nd rfl (Or.inl rfl)) (pgs_cons (pg_name (i := 3) sc_cost_of.nd rfl (Or.inl rfl)) pgs_nil)))) (fun _ _ _ _ _ => pts_nil) (fun _ _ _ _ _ => (pe_op op_add pe_int (pe_callB (r := rLen K) call_len rfl T.n_len (by decide +kernel) (pa_cons (pv 3) pa_nil))))) pa_nil))), ?_⟩
    have el := Paired.length h2
    refine ⟨_, rfl, r, rfl, ⟨_, SqL.of h1⟩, fun D hD => lc_it walk_list (fun i H' => Same H H' ∧ H' D = some (.lst ((((sp.take i).map fun s => 2 + s.2.2.length).map fun n => ((n : Nat) : Int)).map V.int))) ⟨same_new hD, upd_same⟩ (fun _ _ _ p => SqL.of (p.1 _ _ h1)) ?_ ?_⟩
    · rintro i x H1 H2 hi ⟨hs, hd⟩ ⟨rfl, hx⟩
      obtain ⟨c, hc, rfl⟩ := map_get hx
      obtain ⟨z, hz1, q, hz2, hz3⟩ := paired_get h2 hc
      refine ⟨c, _, rfl, SqT.of (hs _ _ hz2), rfl, _, _, rfl, _, _, rfl, _, _, rfl, rfl, rfl, ?_⟩
      have hi2 := (List.getElem?_eq_some_iff.mp hz1).1
      refine ⟨_, rfl, _, _, rfl, .inr ⟨_, SqT.of (lsm hs hz3), rfl⟩, _, _, rfl, rfl, _, hd, ?_, Same.mut hs hD, ?_⟩
      · simp only [List.length_map, List.length_take]; exact lt_line (by omega)
      · rw [upd_same, take_snoc hz1, List.map_append, List.map_append, List.map_append]
        have e : ((2 : Int) + (((z.2.2.map V.str).length : Nat) : Int)) = ((2 + z.2.2.length : Nat) : Int) := by rw [List.length_map]; omega
        show some (HO.lst (_ ++ [V.int ((2 : Int) + (((z.2.2.map V.str).length : Nat) : Int))])) = _
        rw [e]; rfl
    · rintro H2 ⟨hs, hd⟩
      rw [List.length_map, el, List.take_length] at hd
      refine ⟨D, _, rfl, SqL.of hd, ?_⟩
      rw [sum_nat]
      exact k H2 hs
/-! ### patched -/
def spPatched : Sp := fun vs H Q _ => ∃ (a r : Addr) (old : List Str) (as : List Addr) (sp : List Span), vs = [.ref a, .ref r] ∧ LsAt H a old ∧ H r = some (.lst (as.map V.ref)) ∧ SpansAt H as sp ∧ SpOk old.length sp 0 ∧
  (∀ s ∈ sp, (∀ l ∈ s.2.2, LineOk l) ∧ s.2.2.length ≤ 1000) ∧ (patchGo old sp 0).length ≤ 1000 ∧ old.length ≤ 1000 ∧ ∀ q H', H q = none → Same H H' → LsAt H' q (patchGo old sp 0) → Q (.ref q) H'
theorem sc_patched : FnScope ["old", "rows", "found", "done", "least", "low", "high", "lines"] ["old", "rows"] (defScope s_patched) := ⟨rfl, rfl, rfl, by decide +kernel, rfl, by decide +kernel, by decide +kernel⟩
theorem ok_patched (T : Tx K mg) : Gf P w K mg base CX0 3 (He.ga K "patched") ["old", "rows"] spPatched := by
  have G_is_lines : Gf P w K mg base CX0 2 _ _ spLines := ok_is_lines T
  refine gf0_of T.d_patched sc_patched (fun _ _ _ _ _ _ us hl => match us, hl with | [_, _], _ => rfl) (fun vs H Q E h => ?_) (fun cdv A outer s H vs Q E hr h => ?_)
  · obtain ⟨a, r, old, as, sp, rfl, _⟩ := h; rfl
  · obtain ⟨a, r, old, as, sp, rfl, h1, h2, h3, h4, h5, h6, h7, k⟩ := h
    refine ⟨_, pss_cons (ps_set (i := 2) sc_patched.nd rfl (Or.inl rfl) (pe_lst pa_nil))
      (pss_cons (ps_set (i := 3) sc_patched.nd rfl (Or.inl rfl) pe_int)
      (pss_cons (ps_set (i := 4) sc_patched.nd rfl (Or.inl rfl) pe_int)
      (pss_cons (ps_for PassesOwn.never rfl (pi_list (pv 1)) (pg_tup rfl (pgs_cons (pg_name (i := 5) sc_patched.nd rfl (Or.inl rfl)) (pgs_cons (pg_name (i := 6) sc_patched.nd rfl (Or.inl rfl)) (pgs_cons (pg_name (i := 7) sc_patched.nd rfl (Or.inl rfl)) pgs_nil))))
        (pss_cons (ps_if (PW.pt (pw_or (pt_not (pt_chain3 op_le op_le op_le (pv 4) (pv 5) (pv 6) (pe_callB (r := rLen K) call_len rfl T.n_len (by decide +kernel) (pa_cons (pv 0) pa_nil)))) (pw_or (pt_not (pt_val (pe_fn G_is_lines (hr.mono (by decide)) T.g_is_lines pass0 (pa_cons (pv 7) pa_nil)))) (pw_or1 (PW.pt (pw_and (pt_cmpR op_eq (pv 5) (pv 6) (nomark _)) (pw_and1 (pt_cmpR op_eq (pe_callB (r := rLen K) call_len rfl T.n_len (by decide +kernel) (pa_cons (pv 7) pa_nil)) pe_int (nomark _)))))))))
          (pss_one (ps_never))
          (pss_nil))
        (pss_cons (ps_expr (pe_bm PySem.F.plainAttrs_list PySem.F.slot_list_extend PySem.F.type_list_extend (r := rExtendT K) mt_extendT (pv 2) (pa_cons (pe_slice (r := rSlA K) sl_tupA (pv 0) (po_some (pv 3)) (po_some (pv 5))) pa_nil)))
        (pss_cons (ps_expr (pe_bm PySem.F.plainAttrs_list PySem.F.slot_list_extend PySem.F.type_list_extend (r := rExtendT K) mt_extendT (pv 2) (pa_cons (pv 7) pa_nil)))
        (pss_cons (ps_set (i := 3) sc_patched.nd rfl (Or.inl rfl) (pv 6))
        (pss_one (ps_set (i := 4) sc_patched.nd rfl (Or.inl rfl) (pe_op op_add (pv 6) pe_int))))))))
      (pss_cons (ps_expr (pe_bm PySem.F.plainAttrs_list PySem.F.slot_list_extend PySem.F.type_list_extend (r := rExtendT K) mt_extendT (pv 2) (pa_cons (pe_slice (r := rSlA K) sl_tupA (pv 0) (po_some (pv 3)) po_none) pa_nil)))
      (pss_one (ps_ret (pe_callTy (r := rTupK K) call_tuple_of rfl T.n_tuple (by decide +kernel) (pa_cons (pv 2) pa_nil)))))))), ?_⟩
    have eo : (old.map V.str).length = old.length := List.length_map ..
    have el := Paired.length h3
    refine ⟨Nat.zero_le _, fun fd hfd => ?_⟩
    have s0 := same_new (o := .lst []) hfd
    refine ⟨_, rfl, r, rfl, ⟨_, SqL.of (s0 _ _ h2)⟩, for_it walk_list (fun j σ H' => ∃ (dn least : Nat) (v5 v6 v7 : Option V) (out : List Str), σ = [some (.ref a), some (.ref r), some (.ref fd), some (.int ((dn : Nat) : Int)), some (.int ((least : Nat) : Int)), v5, v6, v7] ∧ Same H H' ∧ H' fd = some (.lst (out.map V.str)) ∧ out ++ patchGo old (sp.drop j) dn = patchGo old sp 0 ∧ SpOk old.length (sp.drop j) least)
      ⟨0, 0, none, none, none, [], rfl, s0, upd_same, rfl, h4⟩ (fun _ _ _ _ ⟨_, _, _, _, _, _, _, q, _⟩ => SqL.of (q _ _ h2)) ?_ ?_⟩
    · rintro j x σ H1 H2 hj ⟨dn, least, v5, v6, v7, out, rfl, hs, hd, ho, hk⟩ ⟨rfl, hx⟩
      obtain ⟨c, hc, rfl⟩ := map_get hx
      obtain ⟨⟨lo, hi, ls⟩, hz1, q, hz2, hz3⟩ := paired_get h3 hc
      obtain ⟨b1, b2⟩ := h5 _ (List.mem_of_getElem? hz1)
      rw [drop_cons hz1] at ho hk
      obtain ⟨k1, k2, k3, k4, k5⟩ := hk
      have k1' : least ≤ lo := k1
      have k2' : lo ≤ hi := k2
      have k3' : hi ≤ old.length := k3
      have k4' : ¬ (lo = hi ∧ ls = []) := k4
      have ho' : out ++ (seg old dn lo ++ ls ++ patchGo old (sp.drop (j + 1)) hi) = patchGo old sp 0 := ho
      have olen := congrArg List.length ho'
      simp only [List.length_append] at olen
      refine ⟨c, _, rfl, SqT.of (hs _ _ hz2), rfl, _, _, rfl, _, _, rfl, _, _, rfl, rfl, ?_⟩
      refine ⟨_, rfl, _, rfl, _, _, rfl, rfl, _, rfl, ?_⟩
      refine itep (decide_eq_true (by omega)) ?_
      refine ⟨_, rfl, _, _, rfl, rfl, _, rfl, ?_⟩
      refine itep (decide_eq_true (by omega)) ?_
      refine ⟨_, rfl, _, _, rfl, .inr ⟨_, SqT.of (lsm hs h1), rfl⟩, _, _, rfl, rfl, _, rfl, ?_⟩
      rw [eo]
      refine iten (by simp; omega) ?_
      refine ⟨_, rfl, q, ls, rfl, lsm hs hz3, b1, by have b2' : ls.length ≤ 1000 := b2; omega, fun H3 s3 => ?_⟩
      refine ⟨true, rfl, ?_⟩
      have tl : ∀ D : Ends, (∀ H4 : Hp, Same H H4 → H4 fd = some (.lst (out.map V.str)) → D.nx [some (.ref a), some (.ref r), some (.ref fd), some (.int ((dn : Nat) : Int)), some (.int ((least : Nat) : Int)), some (.int ((lo : Nat) : Int)), some (.int ((hi : Nat) : Int)), some (.ref q)] H4) →
          D.nx [some (.ref a), some (.ref r), some (.ref fd), some (.int ((dn : Nat) : Int)), some (.int ((least : Nat) : Int)), some (.int ((lo : Nat) : Int)), some (.int ((hi : Nat) : Int)), some (.ref q)] H3 := fun D z => z H3 (Same.trans hs s3) (s3 _ _ hd)
      have s3' := Same.trans hs s3
      have hd3 := s3 _ _ hd
      have rest : ∀ rt : VK, (tSeq (tDrop (tBM K "list" (rExtendT K) (tVar 2) (tCons (tSl (rSlA K) (tVar 0) (tPart (tVar 3)) (tPart (tVar 5))) tNil))) (tSeq (tDrop (tBM K "list" (rExtendT K) (tVar 2) (tCons (tVar 7) tNil))) (tSeq (tAsg (tVar 6) (gName 3)) (tAsg (tOp (rI0 fun i j => V.int (i + j)) (tVar 6) (tC (V.int 1))) (gName 4)))))
          { nx := fun σ H' => ∃ (dn least : Nat) (v5 v6 v7 : Option V) (out : List Str), σ = [some (.ref a), some (.ref r), some (.ref fd), some (.int ((dn : Nat) : Int)), some (.int ((least : Nat) : Int)), v5, v6, v7] ∧ Same H H' ∧ H' fd = some (.lst (out.map V.str)) ∧ out ++ patchGo old (sp.drop (j + 1)) dn = patchGo old sp 0 ∧ SpOk old.length (sp.drop (j + 1)) least, rt := rt }
          [some (.ref a), some (.ref r), some (.ref fd), some (.int ((dn : Nat) : Int)), some (.int ((least : Nat) : Int)), some (.int ((lo : Nat) : Int)), some (.int ((hi : Nat) : Int)), some (.ref q)] H3 := by
        intro rt
        refine ⟨_, rfl, Or.inl ⟨rfl, _, SqL.of hd3⟩, _, rfl, _, rfl, _, rfl, _, rfl, _, rfl, slA_ls (lsm s3' h1) (cut_seg (by omega)) fun u H4 s4 hu => ?_⟩
        refine ⟨fd, u, _, _, rfl, rfl, s4 _ _ hd3, SqT.of hu, le_line (by rw [List.length_map, List.length_map]; omega), ?_⟩
        have s5 := Same.mut (o := .lst (out.map V.str ++ (seg old dn lo).map V.str)) (Same.trans s3' s4) hfd
        refine ⟨_, rfl, Or.inl ⟨rfl, _, SqL.of upd_same⟩, _, rfl, fd, q, _, _, rfl, rfl, upd_same, SqT.of (s5 _ _ hz3), le_line (by rw [List.length_append, List.length_map, List.length_map, List.length_map]; omega), ?_⟩
        refine ⟨_, rfl, _, rfl, _, _, rfl, rfl, ?_⟩
        refine ⟨hi, hi + 1, _, _, _, out ++ seg old dn lo ++ ls, rfl, Same.mut s5 hfd, ?_, ?_, k5⟩
        · rw [upd_same, List.map_append, List.map_append]
        · rw [List.append_assoc, List.append_assoc, ← List.append_assoc (seg old dn lo)]; exact ho'
      refine ⟨_, rfl, _, rfl, rfl, _, rfl, ?_⟩
      by_cases c1 : lo = hi
      · refine itep (by rw [c1]; exact decide_eq_true rfl) ?_
        refine ⟨_, rfl, _, _, rfl, .inr ⟨_, SqT.of (lsm s3' hz3), rfl⟩, rfl, _, rfl, ?_⟩
        refine iten (ne_i (show ¬ (((ls.map V.str).length : Nat) : Int) = 0 from fun z => ?_)) ?_
        · rw [List.length_map] at z
          exact k4' ⟨c1, List.length_eq_zero_iff.mp (by omega)⟩
        · exact rest (fun _ _ => False)
      · refine iten (ne_i (show ¬ ((lo : Nat) : Int) = ((hi : Nat) : Int) by omega)) ?_
        exact rest (fun _ _ => False)
    · rintro σ H2 ⟨dn, least, v5, v6, v7, out, rfl, hs, hd, ho, hk⟩
      rw [List.length_map, el, List.drop_length] at ho
      have ho' : out ++ old.drop dn = patchGo old sp 0 := ho
      have olen := congrArg List.length ho'
      simp only [List.length_append] at olen
      refine ⟨_, rfl, Or.inl ⟨rfl, _, SqL.of hd⟩, _, rfl, _, rfl, _, rfl, ?_⟩
      dsimp only [tNoPart]
      refine slA_ls (lsm hs h1) cut_drop fun u H4 s4 hu => ?_
      refine ⟨fd, u, _, _, rfl, rfl, s4 _ _ hd, SqT.of hu, le_line (by rw [List.length_map, List.length_map]; omega), ?_⟩
      have s5 := Same.mut (o := .lst (out.map V.str ++ (old.drop dn).map V.str)) (Same.trans hs s4) hfd
      refine ⟨_, rfl, fd, _, rfl, .inl ⟨SqL.of upd_same, fun l hl => ?_⟩⟩
      refine k l _ (L2.Same.free s5 hl) (Same.new s5 hl) ?_
      show upd _ l _ l = _
      rw [upd_same, ← ho', List.map_append]
end
end An

namespace An
open PySem PySem.Spec L2
/-! ### names -/
def num (k : Nat) : Str := Str.ofString (toString ((k : Nat) : Int))
def nameOf (hd : Str) (k : Nat) : Str := hd ++ "." ++ num k
def HdOk (t : Thing) (hd : Str) : Prop := ∃ d : Nat, d < 97 ∧ hd = letter t ++ num d
theorem tl_num' (k : Nat) : TL.tl (num k) = TL.numL k := TL.tl_num k
theorem tl_dot : TL.tl (("." : Str)) = [46] := by decide +kernel
theorem hd_free {t : Thing} {hd : Str} (h : HdOk t hd) : (46 : Nat) ∉ TL.tl hd := by
  obtain ⟨d, _, rfl⟩ := h
  intro m
  rw [TL.tl_append] at m
  rcases List.mem_append.mp m with q | q
  · cases t with
    | leaf ls => exact absurd (show (46 : Nat) ∈ TL.tl ("L" : Str) from q) (by decide +kernel)
    | tree ls => exact absurd (show (46 : Nat) ∈ TL.tl ("T" : Str) from q) (by decide +kernel)
    | note a b c => exact absurd (show (46 : Nat) ∈ TL.tl ("N" : Str) from q) (by decide +kernel)
  · rw [tl_num'] at q
    exact TL.numL_free (by decide) q
theorem name_parts {t : Thing} {hd : Str} (h : HdOk t hd) (k : Nat) : Txt.partition (nameOf hd k) "." = (hd, (("." : Str), num k)) := TL.partition_app tl_dot (hd_free h)
theorem num_inj {m n : Nat} (h : num m = num n) : m = n := by
  have e := congrArg TL.tl h
  rw [tl_num', tl_num'] at e
  exact TL.numL_inj e
theorem name_inj {t t' : Thing} {hd hd' : Str} {k k' : Nat} (h : HdOk t hd) (h' : HdOk t' hd') (e : nameOf hd k = nameOf hd' k') : hd = hd' ∧ k = k' := by
  have e1 := name_parts h k
  rw [e, name_parts h' k'] at e1
  simp only [Prod.mk.injEq] at e1
  exact ⟨e1.1.symm, num_inj e1.2.2.symm⟩
theorem hd_len {t : Thing} {hd : Str} (h : HdOk t hd) : hd.length ≤ 6 := by
  obtain ⟨d, hd97, rfl⟩ := h
  have := letter_len t
  have := num_len (n := d) (by omega)
  rw [len_app]
  show _ + (Str.ofString (toString ((d : Nat) : Int))).length ≤ 6
  omega
theorem name_len {t : Thing} {hd : Str} {k : Nat} (h : HdOk t hd) (hk : k < 100000) : (nameOf hd k).length ≤ 20 := by
  have := hd_len h
  have := num_len hk
  unfold nameOf
  rw [len_app, len_app]
  have : ("." : Str).length = 1 := by decide +kernel
  show _ + (Str.ofString (toString ((k : Nat) : Int))).length ≤ 20
  omega
def lcode : Thing → Nat
  | .leaf _ => 76
  | .tree _ => 84
  | .note _ _ _ => 78
theorem name_first {t : Thing} {hd : Str} {k : Nat} (h : HdOk t hd) : (nameOf hd k).cps.toList[0]? = some (lcode t) := by
  obtain ⟨d, _, rfl⟩ := h
  show (TL.tl (nameOf (letter t ++ num d) k))[0]? = _
  unfold nameOf
  rw [TL.tl_append, TL.tl_append, TL.tl_append]
  have e : TL.tl (letter t) = [lcode t] := by
    cases t with
    | leaf ls => show TL.tl ("L" : Str) = [76]; decide +kernel
    | tree ls => show TL.tl ("T" : Str) = [84]; decide +kernel
    | note a b c => show TL.tl ("N" : Str) = [78]; decide +kernel
  rw [e]; rfl
/-! ### contents -/
structure StOk (L : Cont) : Prop where
  nd : (nms L).Nodup
  kb : Kb L
  th : ∀ e ∈ L, ThOk e.2
  sz : L.length ≤ 1000
def NmOk (b : Nat) (L : Cont) : Prop := ∀ e ∈ L, ∃ hd k, e.1 = nameOf hd k ∧ HdOk e.2 hd ∧ k < b
theorem NmOk.mono {b c : Nat} {L : Cont} (h : NmOk b L) (l : b ≤ c) : NmOk c L := fun e he => let ⟨hd, k, h1, h2, h3⟩ := h e he; ⟨hd, k, h1, h2, Nat.lt_of_lt_of_le h3 l⟩
theorem StOk.nil : StOk [] := ⟨List.nodup_nil, Kb.nil, fun _ h => (by cases h), Nat.zero_le _⟩
theorem StOk.sub {L : Cont} (o : StOk L) (roots : List Str) : StOk (sub L roots) :=
  ⟨nd_sub o.nd roots, o.kb.sub o.nd roots, fun e he => o.th e (mem_sub.mp he).1, Nat.le_trans (List.length_filter_le _ _) o.sz⟩
/-! ### own things -/
abbrev Own := List (Str × Addr)
def ownV (own : Own) : List (Key × V) := own.map fun e => (Sum.inr e.1, V.ref e.2)
def OwnAt (H : Hp) : Own → Cont → Prop := Paired fun e l => e.1 = l.1 ∧ ThAt H e.2 l.2
theorem OwnAt.mono {H H' : Hp} (s : Tups H H') {own : Own} {L : Cont} (h : OwnAt H own L) : OwnAt H' own L := Paired.mapP h fun _ _ e => ⟨e.1, e.2.mono s⟩
theorem own_keys {H : Hp} : ∀ {own : Own} {L : Cont}, OwnAt H own L → own.map (·.1) = nms L
  | _, _, .nil => rfl
  | _, _, .cons e t => by
    have ih := own_keys t
    unfold nms at ih ⊢
    rw [List.map_cons, List.map_cons, ih, e.1]
theorem ownV_keys (own : Own) : (ownV own).map (·.1) = own.map fun e => (Sum.inr e.1 : Key) := by unfold ownV; rw [List.map_map]; rfl
theorem ownV_none {own : Own} {n : Str} (h : n ∉ own.map (·.1)) : valV (ownV own) (Sum.inr n) = none := by
  induction own with
  | nil => rfl
  | cons e r ih =>
    have h' : ¬ n = e.1 ∧ n ∉ r.map (·.1) := by simpa using h
    show valV ((Sum.inr e.1, V.ref e.2) :: ownV r) _ = _
    rw [valV_neg (fun z => h'.1 (Sum.inr.inj z).symm)]
    exact ih h'.2
theorem own_some {H : Hp} : ∀ {own : Own} {L : Cont} {n : Str} {t : Thing}, OwnAt H own L → (nms L).Nodup → (n, t) ∈ L → ∃ a, valV (ownV own) (Sum.inr n) = some (.ref a) ∧ ThAt H a t
  | _, _, n, t, .nil, _, h => by cases h
  | e :: r, l :: L, n, t, .cons x y, nd, h => by
    obtain ⟨n1, n2⟩ := List.nodup_cons.mp (show (l.1 :: nms L).Nodup from nd)
    rcases List.mem_cons.mp h with q | q
    · have q1 : l.1 = n := by rw [← q]
      have q2 : l.2 = t := by rw [← q]
      refine ⟨e.2, ?_, by rw [← q2]; exact x.2⟩
      show valV ((Sum.inr e.1, V.ref e.2) :: ownV r) _ = _
      exact valV_pos (by show (Sum.inr e.1 : Key) = Sum.inr n; rw [x.1, q1])
    · have ne : ¬ e.1 = n := fun z => n1 (by rw [← x.1, z]; exact nms_mem q)
      obtain ⟨a, h1, h2⟩ := own_some y n2 q
      refine ⟨a, ?_, h2⟩
      show valV ((Sum.inr e.1, V.ref e.2) :: ownV r) _ = _
      rw [valV_neg (fun z => ne (Sum.inr.inj z))]
      exact h1
theorem own_none {H : Hp} {own : Own} {L : Cont} {n : Str} (o : OwnAt H own L) (h : n ∉ nms L) : valV (ownV own) (Sum.inr n) = none := ownV_none (by rw [own_keys o]; exact h)
theorem ownV_put {own : Own} {n : Str} {a : Addr} (h : valV (ownV own) (Sum.inr n) = none) : putK (ownV own) (Sum.inr n) (.ref a) = ownV (own ++ [(n, a)]) := by
  rw [putK_new _ h]; unfold ownV; rw [List.map_append]; rfl
theorem ownV_len (own : Own) : (ownV own).length = own.length := by unfold ownV; exact List.length_map ..
/-! ### packs -/
def wholesOf (ps : List PEnt) : Cont := (ps.filter whole).map fun p => (p.name, p.thing)
def viasOf (ps : List PEnt) : List (Str × Str × List Span) := ps.filterMap fun p => p.via.map fun v => (p.name, v.1, v.2)
def ViaAt (H : Hp) : Own → List (Str × Str × List Span) → Prop := Paired fun e v => e.1 = v.1 ∧ ∃ r as, H e.2 = some (.tup [.str v.2.1, .ref r]) ∧ H r = some (.lst (as.map V.ref)) ∧ SpansAt H as v.2.2
/-- fields of a pack -/
def pkF (o wd sd : Addr) : List (Str × V) := [("order", .ref o), ("wholes", .ref wd), ("spans", .ref sd)]
/-- a pack at p, of the names ord, what is kept so far told by ps -/
structure PkMid (CP : Addr) (h : Hp) (p wd sd : Addr) (ord : List Str) (ps : List PEnt) : Prop where
  ex : ∃ dx o ws ss, h p = some (.ins CP dx (pkF o wd sd)) ∧ h o = some (.lst (ord.map V.str)) ∧ h wd = some (.dK (ownV ws)) ∧ OwnAt h ws (wholesOf ps) ∧ h sd = some (.dK (ownV ss)) ∧ ViaAt h ss (viasOf ps)
  ne : wd ≠ sd
structure PackAt (CP : Addr) (h : Hp) (p : Addr) (L : Cont) : Prop where
  ex : ∃ wd sd, PkMid CP h p wd sd (nms L) (planAll L)
  ok : StOk L
theorem ViaAt.mono {H H' : Hp} (s : Same H H') {own : Own} {L : List (Str × Str × List Span)} (h : ViaAt H own L) : ViaAt H' own L :=
  Paired.mapP h fun _ _ ⟨e, r, as, h1, h2, h3⟩ => ⟨e, r, as, s _ _ h1, s _ _ h2, h3.mono (tups_of s)⟩
theorem PkMid.mono {CP : Addr} {h h' : Hp} (s : Same h h') {p wd sd : Addr} {ord : List Str} {ps : List PEnt} (k : PkMid CP h p wd sd ord ps) : PkMid CP h' p wd sd ord ps := by
  obtain ⟨dx, o, ws, ss, h1, h2, h3, h4, h5, h6⟩ := k.ex
  exact ⟨⟨dx, o, ws, ss, s _ _ h1, s _ _ h2, s _ _ h3, h4.mono (tups_of s), s _ _ h5, h6.mono s⟩, k.ne⟩
theorem PackAt.mono {CP : Addr} {h h' : Hp} (s : Same h h') {p : Addr} {L : Cont} (k : PackAt CP h p L) : PackAt CP h' p L :=
  let ⟨wd, sd, m⟩ := k.ex
  ⟨⟨wd, sd, m.mono s⟩, k.ok⟩
/-! ### shelves -/
def shF (vb : V) (o t g : Addr) : List (Str × V) := [("base", vb), ("own", .ref o), ("told", .ref t), ("greatest", .ref g)]
def TdOk (kvs : TL) (L : Cont) : Prop := ∀ x ∈ kvs, (x.2.2, x.1) ∈ L
def GrOk (gks : List (Key × V)) (b : Nat) (L : Cont) : Prop :=
  (∀ e ∈ L, ∀ hd k, e.1 = nameOf hd k → HdOk e.2 hd → ∃ z : Nat, valV gks (Sum.inr hd) = some (.int ((z : Nat) : Int)) ∧ k ≤ z) ∧
  (∀ hd v, valV gks (Sum.inr hd) = some v → ∃ z : Nat, v = .int ((z : Nat) : Int) ∧ z < b)
structure ShCore (P : Program) (w : World) (CS : Addr) (h : Hp) (p : Addr) (vb : V) (o t g : Addr) (Lb Lo : Cont) : Prop where
  ins : ∃ dx, h p = some (.ins CS dx (shF vb o t g))
  own : ∃ ow, h o = some (.dK (ownV ow)) ∧ OwnAt h ow Lo
  told : ∃ kvs, TdAt P w h t kvs ∧ TdOk kvs (Lb ++ Lo) ∧ kvs.length ≤ 2 * (Lb ++ Lo).length
  gr : ∃ gks, h g = some (.dK gks) ∧ GrOk gks (Lb ++ Lo).length (Lb ++ Lo) ∧ gks.length ≤ (Lb ++ Lo).length
  nog : o ≠ g
  ok : StOk (Lb ++ Lo)
  nm : NmOk (Lb ++ Lo).length (Lb ++ Lo)
inductive StAt (P : Program) (w : World) (CP CS : Addr) : Nat → Hp → Addr → Cont → Prop where
  | pack {n : Nat} {h : Hp} {p : Addr} {L : Cont} (k : PackAt CP h p L) : StAt P w CP CS n h p L
  | shelf0 {n : Nat} {h : Hp} {p o t g : Addr} {L : Cont} (k : ShCore P w CS h p .non o t g [] L) : StAt P w CP CS n h p L
  | shelf1 {n : Nat} {h hb : Hp} {p b o t g : Addr} {Lb Lo : Cont} (kb : StAt P w CP CS n hb b Lb) (s : Same hb h) (ho : hb o = none) (ht : hb t = none) (hg : hb g = none) (k : ShCore P w CS h p (.ref b) o t g Lb Lo) : StAt P w CP CS (n + 1) h p (Lb ++ Lo)
/-- a shelf at p, its dicts at o, t, g -/
def ShAt (P : Program) (w : World) (CP CS : Addr) (n : Nat) (h : Hp) (p o t g : Addr) (L : Cont) : Prop :=
  ∃ vb Lb Lo, L = Lb ++ Lo ∧ ShCore P w CS h p vb o t g Lb Lo ∧ ((vb = .non ∧ Lb = []) ∨ ∃ m b hb, n = m + 1 ∧ vb = .ref b ∧ StAt P w CP CS m hb b Lb ∧ Same hb h ∧ hb o = none ∧ hb t = none ∧ hb g = none)
section
variable {P : Program} {w : World} {CP CS : Addr} {n : Nat} {h h' : Hp} {p o t g : Addr} {L : Cont}
theorem ShAt.st (k : ShAt P w CP CS n h p o t g L) : StAt P w CP CS n h p L := by
  obtain ⟨vb, Lb, Lo, rfl, c, ⟨rfl, rfl⟩ | ⟨m, b, hb, rfl, rfl, k1, k2, k3, k4, k5⟩⟩ := k
  · exact .shelf0 c
  · exact .shelf1 k1 k2 k3 k4 k5 c
theorem ShCore.mono {vb : V} {Lb Lo : Cont} (s : Same h h') (k : ShCore P w CS h p vb o t g Lb Lo) : ShCore P w CS h' p vb o t g Lb Lo := by
  obtain ⟨⟨dx, i⟩, ⟨ow, o1, o2⟩, ⟨kvs, t1, t2⟩, ⟨gks, g1, g2⟩, n1, n2, n3⟩ := k
  exact ⟨⟨dx, s _ _ i⟩, ⟨ow, s _ _ o1, o2.mono (tups_of s)⟩, ⟨kvs, ⟨s _ _ t1.1, fun x hx => (t1.2 x hx).mono (tups_of s)⟩, t2⟩, ⟨gks, s _ _ g1, g2⟩, n1, n2, n3⟩
theorem ShAt.mono (s : Same h h') (k : ShAt P w CP CS n h p o t g L) : ShAt P w CP CS n h' p o t g L := by
  obtain ⟨vb, Lb, Lo, e, c, q | ⟨m, b, hb, e1, e2, k1, k2, k3⟩⟩ := k
  · exact ⟨vb, Lb, Lo, e, c.mono s, .inl q⟩
  · exact ⟨vb, Lb, Lo, e, c.mono s, .inr ⟨m, b, hb, e1, e2, k1, Same.trans k2 s, k3⟩⟩
theorem StAt.mono (s : Same h h') (k : StAt P w CP CS n h p L) : StAt P w CP CS n h' p L := by
  cases k with
  | pack k => exact .pack (k.mono s)
  | shelf0 k => exact .shelf0 (k.mono s)
  | shelf1 kb s1 ho ht hg k => exact .shelf1 kb (Same.trans s1 s) ho ht hg (k.mono s)
theorem StAt.ok (k : StAt P w CP CS n h p L) : StOk L := by
  cases k with
  | pack k => exact k.ok
  | shelf0 k => exact k.ok
  | shelf1 kb s1 ho ht hg k => exact k.ok
theorem ShAt.ok (k : ShAt P w CP CS n h p o t g L) : StOk L := k.st.ok
theorem sh_base {vb : V} : (shF vb o t g).lookup ("base" : Str) = some vb := by
  unfold shF; simp [List.lookup]
theorem sh_own {vb : V} : (shF vb o t g).lookup ("own" : Str) = some (.ref o) := by
  have e : (("own" : Str) == "base") = false := by decide +kernel
  unfold shF; simp [List.lookup, e]
theorem sh_told {vb : V} : (shF vb o t g).lookup ("told" : Str) = some (.ref t) := by
  have e : (("told" : Str) == "base") = false := by decide +kernel
  have e2 : (("told" : Str) == "own") = false := by decide +kernel
  unfold shF; simp [List.lookup, e, e2]
theorem sh_great {vb : V} : (shF vb o t g).lookup ("greatest" : Str) = some (.ref g) := by
  have e : (("greatest" : Str) == "base") = false := by decide +kernel
  have e2 : (("greatest" : Str) == "own") = false := by decide +kernel
  have e3 : (("greatest" : Str) == "told") = false := by decide +kernel
  unfold shF; simp [List.lookup, e, e2, e3]
theorem sh_no {vb : V} {m : Str} (h1 : (m == "base") = false := by decide +kernel) (h2 : (m == "own") = false := by decide +kernel) (h3 : (m == "told") = false := by decide +kernel) (h4 : (m == "greatest") = false := by decide +kernel) : (shF vb o t g).lookup m = none := by
  unfold shF; simp [List.lookup, h1, h2, h3, h4]
theorem pk_order : (pkF o t g).lookup ("order" : Str) = some (.ref o) := by unfold pkF; simp [List.lookup]
theorem pk_wholes : (pkF o t g).lookup ("wholes" : Str) = some (.ref t) := by
  have e : (("wholes" : Str) == "order") = false := by decide +kernel
  unfold pkF; simp [List.lookup, e]
theorem pk_spans : (pkF o t g).lookup ("spans" : Str) = some (.ref g) := by
  have e : (("spans" : Str) == "order") = false := by decide +kernel
  have e2 : (("spans" : Str) == "wholes") = false := by decide +kernel
  unfold pkF; simp [List.lookup, e, e2]
theorem pk_no {m : Str} (h1 : (m == "order") = false := by decide +kernel) (h2 : (m == "wholes") = false := by decide +kernel) (h3 : (m == "spans") = false := by decide +kernel) : (pkF o t g).lookup m = none := by
  unfold pkF; simp [List.lookup, h1, h2, h3]
end
end An

namespace An
open PySem PySem.Spec L2
/-- what is asked as a name here -/
def VOk (H : Hp) : V → Prop
  | .str _ => True
  | .non => True
  | .int _ => True
  | .ref a => ∃ xs, H a = some (.lst xs)
  | _ => False
def hasV (ns : List Str) : V → Bool
  | .str z => decide (z ∈ ns)
  | _ => false
theorem vok_ty {K : PySem.W.Frag} {H : Hp} {v : V} (o : VOk H v) : ∃ t, TyX K H v (.type t) ∧ kitB t "str" = some (match v with | .str _ => true | _ => false) := by
  cases v with
  | str z => exact ⟨_, .base (.str z), ki_ss⟩
  | non => exact ⟨_, .base .non, ki_ns⟩
  | int i => exact ⟨_, .base (.int i), ki_is⟩
  | ref a => obtain ⟨xs, h⟩ := o; exact ⟨_, .base (.lst h), ki_ls⟩
  | bl b => exact o.elim
  | byt b => exact o.elim
  | flt b => exact o.elim
  | ty n => exact o.elim
/-- a plan that stands -/
structure PkPlan (ps : List PEnt) : Prop where
  nd : (ps.map (·.name)).Nodup
  ok : ∀ pre e post, ps = pre ++ e :: post → EntOk pre e
  th : ∀ e ∈ ps, ThOk e.thing
theorem plan_ok {L : Cont} (o : StOk L) : PkPlan (planAll L) := by
  refine ⟨by rw [planAll_names]; exact o.nd, planAll_ok L, fun e he => ?_⟩
  have h : (e.name, e.thing) ∈ L := by rw [← planAll_map L]; exact List.mem_map.mpr ⟨e, he, rfl⟩
  exact o.th _ h
theorem via_keys {H : Hp} : ∀ {own : Own} {L : List (Str × Str × List Span)}, ViaAt H own L → own.map (·.1) = L.map (·.1)
  | _, _, .nil => rfl
  | _, _, .cons e t => by rw [List.map_cons, List.map_cons, via_keys t, e.1]
theorem mem_wholes {ps : List PEnt} {n : Str} {t : Thing} : (n, t) ∈ wholesOf ps ↔ ∃ e ∈ ps, e.via = none ∧ e.name = n ∧ e.thing = t := by
  unfold wholesOf
  constructor
  · intro h
    obtain ⟨e, he, q⟩ := List.mem_map.mp h
    obtain ⟨h1, h2⟩ := List.mem_filter.mp he
    simp only [Prod.mk.injEq] at q
    exact ⟨e, h1, Option.isNone_iff_eq_none.mp h2, q.1, q.2⟩
  · rintro ⟨e, h1, h2, rfl, rfl⟩
    exact List.mem_map.mpr ⟨e, List.mem_filter.mpr ⟨h1, by unfold whole; rw [h2]; rfl⟩, rfl⟩
theorem mem_vias {ps : List PEnt} {n b : Str} {sp : List Span} : (n, b, sp) ∈ viasOf ps ↔ ∃ e ∈ ps, e.via = some (b, sp) ∧ e.name = n := by
  unfold viasOf
  constructor
  · intro h
    obtain ⟨e, he, q⟩ := List.mem_filterMap.mp h
    obtain ⟨v, hv, q⟩ := Option.map_eq_some_iff.mp q
    simp only [Prod.mk.injEq] at q
    exact ⟨e, he, by rw [hv, ← q.2.1, ← q.2.2], q.1⟩
  · rintro ⟨e, h1, h2, rfl⟩
    exact List.mem_filterMap.mpr ⟨e, h1, by rw [h2]; rfl⟩
theorem uniq_name {ps : List PEnt} (nd : (ps.map (·.name)).Nodup) {e f : PEnt} (he : e ∈ ps) (hf : f ∈ ps) (h : e.name = f.name) : e = f := by
  obtain ⟨i, hi⟩ := List.mem_iff_getElem?.mp he
  obtain ⟨j, hj⟩ := List.mem_iff_getElem?.mp hf
  have h1 : (ps.map (·.name))[i]? = some e.name := by rw [List.getElem?_map, hi]; rfl
  have h2 : (ps.map (·.name))[j]? = some e.name := by rw [List.getElem?_map, hj, h]; rfl
  have q : i = j := nodup_ix nd h1 h2
  subst q
  rw [hi] at hj
  exact Option.some.inj hj
theorem nd_wholes {ps : List PEnt} (nd : (ps.map (·.name)).Nodup) : (nms (wholesOf ps)).Nodup := by
  unfold nms wholesOf
  rw [List.map_map]
  exact List.Nodup.sublist (List.Sublist.map _ List.filter_sublist) nd
theorem vias_names (ps : List PEnt) : (viasOf ps).map (·.1) = (ps.filter fun p => !whole p).map (·.name) := by
  induction ps with
  | nil => rfl
  | cons p r ih =>
    unfold viasOf at ih ⊢
    rw [List.filterMap_cons, List.filter_cons]
    cases h : p.via with
    | none =>
      have hw : whole p = true := by unfold whole; rw [h]; rfl
      rw [hw]; exact ih
    | some v =>
      have hw : whole p = false := by unfold whole; rw [h]; rfl
      rw [hw]
      show _ :: _ = _ :: _
      rw [ih]
theorem nd_vias {ps : List PEnt} (nd : (ps.map (·.name)).Nodup) : ((viasOf ps).map (·.1)).Nodup := by
  rw [vias_names]
  exact List.Nodup.sublist (List.Sublist.map _ List.filter_sublist) nd
theorem via_some {H : Hp} : ∀ {own : Own} {L : List (Str × Str × List Span)} {n b : Str} {sp : List Span}, ViaAt H own L → (L.map (·.1)).Nodup → (n, b, sp) ∈ L →
    ∃ a r as, valV (ownV own) (Sum.inr n) = some (.ref a) ∧ H a = some (.tup [.str b, .ref r]) ∧ H r = some (.lst (as.map V.ref)) ∧ SpansAt H as sp
  | _, _, n, b, sp, .nil, _, h => by cases h
  | e :: r, l :: L, n, b, sp, .cons x y, nd, h => by
    obtain ⟨n1, n2⟩ := List.nodup_cons.mp (show (l.1 :: L.map (·.1)).Nodup from nd)
    rcases List.mem_cons.mp h with q | q
    · obtain ⟨x1, r2, as, x2, x3, x4⟩ := x
      rw [← q] at x1 x2 x4
      refine ⟨e.2, r2, as, ?_, x2, x3, x4⟩
      show valV ((Sum.inr e.1, V.ref e.2) :: ownV r) _ = _
      exact valV_pos (by show (Sum.inr e.1 : Key) = Sum.inr n; rw [x1])
    · have ne : ¬ e.1 = n := fun z => n1 (by rw [← x.1, z]; exact List.mem_map.mpr ⟨_, q, rfl⟩)
      obtain ⟨a, r2, as, h1, h2⟩ := via_some y n2 q
      refine ⟨a, r2, as, ?_, h2⟩
      show valV ((Sum.inr e.1, V.ref e.2) :: ownV r) _ = _
      rw [valV_neg (fun z => ne (Sum.inr.inj z))]
      exact h1
/-- where a name of the plan is found -/
theorem pk_find {H : Hp} {ws ss : Own} {ps : List PEnt} (pl : (ps.map (·.name)).Nodup) (hw : OwnAt H ws (wholesOf ps)) (hs : ViaAt H ss (viasOf ps)) {e : PEnt} (he : e ∈ ps) :
    (e.via = none ∧ ∃ a, valV (ownV ws) (Sum.inr e.name) = some (.ref a) ∧ ThAt H a e.thing) ∨
    (∃ b sp a r as, e.via = some (b, sp) ∧ valV (ownV ws) (Sum.inr e.name) = none ∧ valV (ownV ss) (Sum.inr e.name) = some (.ref a) ∧ H a = some (.tup [.str b, .ref r]) ∧ H r = some (.lst (as.map V.ref)) ∧ SpansAt H as sp) := by
  cases h : e.via with
  | none =>
    obtain ⟨a, h1, h2⟩ := own_some hw (nd_wholes pl) (mem_wholes.mpr ⟨e, he, h, rfl, rfl⟩)
    exact .inl ⟨rfl, a, h1, h2⟩
  | some v =>
    obtain ⟨b, sp⟩ := v
    obtain ⟨a, r, as, h1, h2, h3, h4⟩ := via_some hs (nd_vias pl) (mem_vias.mpr ⟨e, he, h, rfl⟩)
    refine .inr ⟨b, sp, a, r, as, rfl, own_none hw fun m => ?_, h1, h2, h3, h4⟩
    obtain ⟨t, ht⟩ := mem_nms m
    obtain ⟨f, hf, hv, hn, _⟩ := mem_wholes.mp ht
    have q := uniq_name pl hf he hn
    rw [q, h] at hv; cases hv
theorem pk_none {H : Hp} {ws ss : Own} {ps : List PEnt} (hw : OwnAt H ws (wholesOf ps)) (hs : ViaAt H ss (viasOf ps)) {n : Str} (h : n ∉ ps.map (·.name)) : valV (ownV ws) (Sum.inr n) = none ∧ valV (ownV ss) (Sum.inr n) = none := by
  refine ⟨own_none hw fun m => ?_, ownV_none ?_⟩
  · obtain ⟨t, ht⟩ := mem_nms m
    obtain ⟨f, hf, _, hn, _⟩ := mem_wholes.mp ht
    exact h (List.mem_map.mpr ⟨f, hf, hn⟩)
  · rw [via_keys hs]
    intro m
    obtain ⟨v, hv, e⟩ := List.mem_map.mp m
    obtain ⟨n', b, sp⟩ := v
    obtain ⟨f, hf, _, hn⟩ := mem_vias.mp hv
    exact h (List.mem_map.mpr ⟨f, hf, hn.trans e⟩)
section
variable {P : Program} {w : World} {K : PySem.W.Frag} {mg : Str → Option Value} {base : Heap}
/-! ### Pack.has -/
def spPHas (K : PySem.W.Frag) : Sp := fun vs H Q _ => ∃ (p wd sd : Addr) (v : V) (ord : List Str) (ps : List PEnt), vs = [.ref p, v] ∧ PkMid (He.ga K "Pack") H p wd sd ord ps ∧ (ps.map (·.name)).Nodup ∧ VOk H v ∧ Q (.bl (hasV (ps.map (·.name)) v)) H
theorem sc_P_has : FnScope ["self", "name"] ["self", "name"] (defScope s_P_has) := ⟨rfl, rfl, rfl, by decide +kernel, rfl, by decide +kernel, by decide +kernel⟩
theorem ok_P_has (T : Tx K mg) : Gf P w K mg base CX0 1 (He.ma K (He.ga K "Pack") "has") ["self", "name"] (spPHas K) := by
  refine gf0_of T.d_P_has sc_P_has (fun _ _ _ _ _ _ us hl => match us, hl with | [_, _], _ => rfl) (fun vs H Q E h => ?_) (fun cdv A outer s H vs Q E hr h => ?_)
  · obtain ⟨p, wd, sd, v, ord, ps, rfl, _⟩ := h; rfl
  · obtain ⟨p, wd, sd, v, ord, ps, rfl, ⟨⟨dx, o, ws, ss, h1, h2, h3, h4, h5, h6⟩, _⟩, nd, vo, k⟩ := h
    refine ⟨_, pss_one (ps_ret (pe_and (pe_callB (r := rIsi K) call_isi rfl T.n_isinstance (by decide +kernel) (pa_cons (pv 1) (pa_cons (pe_tyv "str" T.n_str) pa_nil))) (pe_one (pe_or (pe_cmp (pc_din (hu_of hr) (pv 1) (pe_fld (pv 0) rfl)) (by rfl)) (pe_one (pe_cmp (pc_din (hu_of hr) (pv 1) (pe_fld (pv 0) rfl)) (by rfl))))))), ?_⟩
    obtain ⟨t, ty, kt⟩ := vok_ty (K := K) vo
    refine ⟨_, rfl, _, _, _, _, _, rfl, .ty _, ty, kit_ty kt, _, rfl, ?_⟩
    cases v with
    | str z =>
      refine ⟨_, rfl, _, rfl, p, _, dx, _, _, rfl, h1, T.clP, T.aP_wholes, pk_wholes, wd, _, rfl, DGet.k (k := Sum.inr z) h3, _, rfl, ?_⟩
      have fin : ∀ b, b = hasV (ps.map (·.name)) (.str z) → Q (.bl b) H := fun b e => e ▸ k
      by_cases c : z ∈ ps.map (·.name)
      · obtain ⟨e, he, hn⟩ := List.mem_map.mp c
        rcases pk_find nd h4 h6 he with ⟨_, a, q1, _⟩ | ⟨b, sp, a, r, as, _, q1, q2, _⟩
        · rw [hn] at q1
          refine itep (by rw [q1]; rfl) ?_
          exact fin _ (by simp [hasV, c])
        · rw [hn] at q1 q2
          refine iten (by rw [q1]; simp) ?_
          refine ⟨_, rfl, _, rfl, p, _, dx, _, _, rfl, h1, T.clP, T.aP_spans, pk_spans, sd, _, rfl, DGet.k (k := Sum.inr z) h5, ?_⟩
          exact fin _ (by rw [q2]; simp [hasV, c])
      · obtain ⟨q1, q2⟩ := pk_none h4 h6 c
        refine iten (by rw [q1]; simp) ?_
        refine ⟨_, rfl, _, rfl, p, _, dx, _, _, rfl, h1, T.clP, T.aP_spans, pk_spans, sd, _, rfl, DGet.k (k := Sum.inr z) h5, ?_⟩
        exact fin _ (by rw [q2]; simp [hasV, c])
    | non => exact k
    | int i => exact k
    | ref a => exact k
    | bl b => exact vo.elim
    | byt b => exact vo.elim
    | flt b => exact vo.elim
    | ty n => exact vo.elim
/-! ### Pack.need_name -/
def spPNeed (K : PySem.W.Frag) : Sp := fun vs H Q E => ∃ (p wd sd : Addr) (v : V) (ord : List Str) (ps : List PEnt), vs = [.ref p, v] ∧ PkMid (He.ga K "Pack") H p wd sd ord ps ∧ (ps.map (·.name)).Nodup ∧ VOk H v ∧
  (hasV (ps.map (·.name)) v = true → Q .non H) ∧ (hasV (ps.map (·.name)) v = false → E (.ref (He.ga K "NoName")) none H)
theorem sc_P_need_name : FnScope ["self", "name"] ["self", "name"] (defScope s_P_need_name) := ⟨rfl, rfl, rfl, by decide +kernel, rfl, by decide +kernel, by decide +kernel⟩
theorem ok_P_need_name (T : Tx K mg) : Gf P w K mg base (L2.CX P w) 2 (He.ma K (He.ga K "Pack") "need_name") ["self", "name"] (spPNeed K) := by
  have GP_has : Gf P w K mg base CX0 1 _ _ (spPHas K) := ok_P_has T
  refine gf_of T.d_P_need_name sc_P_need_name (fun _ _ _ _ _ _ us hl => match us, hl with | [_, _], _ => rfl) (fun vs H Q E h => ?_) (fun cdv A outer s H vs Q E hr h => ?_)
  · obtain ⟨p, wd, sd, v, ord, ps, rfl, _⟩ := h; rfl
  · obtain ⟨p, wd, sd, v, ord, ps, rfl, M, nd, vo, k1, k2⟩ := h
    obtain ⟨dx, o, ws, ss, h1, _⟩ := id M.ex
    refine ⟨_, pss_one (ps_if (pt_not (pt_val (pe_mt T.clP T.mP_has GP_has (hr.mono (by decide)) pass0 (pv 0) (pa_cons (pv 1) pa_nil))))
        (pss_one (ps_raise rfl (takes_of rfl rfl rfl rfl) (pmk_own PySem.F.excBase_ValueError T.xN.1 T.g_NoName T.xN.2.1 (raises_own T.xN.2.2.1 T.xN.2.2.2) rfl)))
        (pss_nil)), ?_⟩
    refine ⟨_, rfl, p, dx, _, rfl, h1, pk_no, _, rfl, p, wd, sd, v, ord, ps, rfl, M, nd, vo, _, rfl, ?_⟩
    cases c : hasV (ps.map (·.name)) v with
    | true => exact k1 c
    | false => exact k2 c
/-! ### Pack.steps -/
def spPSteps (K : PySem.W.Frag) (n : Nat) : Sp := fun vs H Q E => ∃ (p wd sd : Addr) (v : V) (ord : List Str) (ps : List PEnt), vs = [.ref p, v] ∧ PkMid (He.ga K "Pack") H p wd sd ord ps ∧ PkPlan ps ∧ VOk H v ∧
  ((∃ e ∈ ps, v = .str e.name ∧ e.steps ≤ n ∧ Q (.int ((e.steps : Nat) : Int)) H) ∨ (hasV (ps.map (·.name)) v = false ∧ E (.ref (He.ga K "NoName")) none H))
theorem sc_P_steps : FnScope ["self", "name"] ["self", "name"] (defScope s_P_steps) := ⟨rfl, rfl, rfl, by decide +kernel, rfl, by decide +kernel, by decide +kernel⟩
theorem ok_P_steps (T : Tx K mg) : ∀ n, Gf P w K mg base (L2.CX P w) (3 + n) (He.ma K (He.ga K "Pack") "steps") ["self", "name"] (spPSteps K n) := by
  have GP_need_name : Gf P w K mg base (L2.CX P w) 2 _ _ (spPNeed K) := ok_P_need_name T
  have body : ∀ n, (∀ n', n = n' + 1 → Gf P w K mg base (L2.CX P w) (3 + n') (He.ma K (He.ga K "Pack") "steps") ["self", "name"] (spPSteps K n')) → Gf P w K mg base (L2.CX P w) (2 + n + 1) (He.ma K (He.ga K "Pack") "steps") ["self", "name"] (spPSteps K n) := by
    intro n ih
    refine gf_of T.d_P_steps sc_P_steps (fun _ _ _ _ _ _ us hl => match us, hl with | [_, _], _ => rfl) (fun vs H Q E h => ?_) (fun cdv A outer s H vs Q E hr h => ?_)
    · obtain ⟨p, wd, sd, v, ord, ps, rfl, _⟩ := h; rfl
    · obtain ⟨p, wd, sd, v, ord, ps, rfl, M, pl, vo, k⟩ := h
      obtain ⟨dx, o, ws, ss, h1, h2, h3, h4, h5, h6⟩ := id M.ex
      have hr2 : Room 2 _ := hr.mono (by omega)
      rcases k with ⟨e, he, rfl, hn, k⟩ | ⟨kf, k⟩
      · rcases pk_find pl.nd h4 h6 he with ⟨q0, a, q1, _⟩ | ⟨b, sp, a, r, as, q0, q1, q2, q3, q4, q5⟩
        · have e0 : e.steps = 0 := by
            obtain ⟨pre, post, ep⟩ := List.append_of_mem he
            have z := pl.ok pre e post ep
            unfold EntOk at z
            rw [q0] at z; exact z
          have GP_steps : Gf P w K mg base (L2.CX P w) 2 (He.ma K (He.ga K "Pack") "need_name") _ (spPNeed K) := GP_need_name
          refine ⟨_, pss_cons (ps_expr (pe_mt T.clP T.mP_need_name GP_need_name hr2 passL (pv 0) (pa_cons (pv 1) pa_nil)))
            (pss_cons (ps_if (pt_cmp (pc_din (hu_of hr) (pv 1) (pe_fld (pv 0) rfl)) (by rfl)) (pss_one (ps_ret pe_int)) pss_nil) (pss_one ps_never)), ?_⟩
          refine ⟨_, rfl, p, dx, _, rfl, h1, pk_no, _, rfl, p, wd, sd, _, ord, ps, rfl, M, pl.nd, trivial, fun _ => ?_, fun c => ?_⟩
          · refine ⟨_, rfl, _, rfl, p, _, dx, _, _, rfl, h1, T.clP, T.aP_wholes, pk_wholes, wd, _, rfl, DGet.k (k := Sum.inr e.name) h3, _, rfl, ?_⟩
            refine itep (by rw [q1]; rfl) ?_
            rw [e0] at k
            exact k
          · have : hasV (ps.map (·.name)) (.str e.name) = true := by
              show decide _ = true
              exact decide_eq_true (List.mem_map.mpr ⟨e, he, rfl⟩)
            rw [this] at c; cases c
        · obtain ⟨pre, post, ep⟩ := List.append_of_mem he
          have z := pl.ok pre e post ep
          unfold EntOk at z
          rw [q0] at z
          obtain ⟨f, hf, fn, fl, el, fs, f4, _⟩ := z
          have hf' : f ∈ ps := by rw [ep]; exact List.mem_append_left _ hf
          obtain ⟨n', rfl⟩ : ∃ n', n = n' + 1 := ⟨n - 1, by omega⟩
          have GP_steps := ih n' rfl
          refine ⟨_, pss_cons (ps_expr (pe_mt T.clP T.mP_need_name GP_need_name hr2 passL (pv 0) (pa_cons (pv 1) pa_nil)))
            (pss_cons (ps_if (pt_cmp (pc_din (hu_of hr) (pv 1) (pe_fld (pv 0) rfl)) (by rfl)) (pss_one (ps_ret pe_int)) pss_nil)
            (pss_one (ps_ret (pe_op op_add pe_int (pe_mt T.clP T.mP_steps GP_steps (hr.mono (by omega)) passL (pv 0) (pa_cons (pe_ix (r := rIxT K) ix_tup (pe_dget (hu_of hr) (pe_fld (pv 0) rfl) (pv 1) (fun _ _ => rfl)) pe_int (fun _ _ => rfl)) pa_nil)))))), ?_⟩
          refine ⟨_, rfl, p, dx, _, rfl, h1, pk_no, _, rfl, p, wd, sd, _, ord, ps, rfl, M, pl.nd, trivial, fun _ => ?_, fun c => ?_⟩
          · refine ⟨_, rfl, _, rfl, p, _, dx, _, _, rfl, h1, T.clP, T.aP_wholes, pk_wholes, wd, _, rfl, DGet.k (k := Sum.inr e.name) h3, _, rfl, ?_⟩
            refine iten (by rw [q1]; simp) ?_
            have g := DGet.k (k := Sum.inr e.name) h5
            rw [q2] at g
            refine ⟨_, rfl, p, dx, _, rfl, h1, pk_no, _, rfl, p, _, dx, _, _, rfl, h1, T.clP, T.aP_spans, pk_spans, _, rfl, sd, _, rfl, g, a, _, _, _, rfl, rfl, SqT.of q3, rfl, ?_⟩
            refine ⟨p, wd, sd, _, ord, ps, rfl, M, pl, trivial, .inl ⟨f, hf', by rw [fn], by omega, _, _, rfl, rfl, ?_⟩⟩
            have e3 : (1 : Int) + ((f.steps : Nat) : Int) = ((e.steps : Nat) : Int) := by omega
            rw [← e3] at k
            exact k
          · have : hasV (ps.map (·.name)) (.str e.name) = true := decide_eq_true (List.mem_map.mpr ⟨e, he, rfl⟩)
            rw [this] at c; cases c
      · refine ⟨_, pss_cons (ps_expr (pe_mt T.clP T.mP_need_name GP_need_name hr2 (passT (takes_of rfl rfl rfl rfl)) (pv 0) (pa_cons (pv 1) pa_nil))) pss_never, ?_⟩
        refine ⟨_, rfl, p, dx, _, rfl, h1, pk_no, _, rfl, p, wd, sd, _, ord, ps, rfl, M, pl.nd, vo, fun c => ?_, fun _ => k⟩
        rw [kf] at c; cases c
  intro n
  induction n with
  | zero => exact body 0 (fun n' h => by cases h)
  | succ n ih =>
    have z := body (n + 1) (fun n' h => by cases h; exact ih)
    exact z.mono (by omega)
end
end An

namespace An
open PySem PySem.Spec L2
theorem spansGo_short {new : List Str} : ∀ {ps : List (Nat × Nat)} {low first : Nat} {s : Span}, s ∈ spansGo new ps low first → s.2.2.length ≤ new.length
  | [], _, _, _, h => by cases h
  | p :: r, low, first, s, h => by
    rw [spansGo] at h
    split at h
    · rcases List.mem_cons.mp h with e | h
      · rw [e]; show (seg new first p.2).length ≤ _; unfold seg; rw [List.length_take, List.length_drop]; omega
      · exact spansGo_short h
    · exact spansGo_short h
theorem same_unlock {H H' : Hp} {d : Addr} {u : HO} {od : Obj} (h : H d = some u) (s : Same (upd H d (.frz od u)) H') : Same H (upd H' d u) := fun b o e => by
  by_cases c : b = d
  · rw [c, upd_same]; rw [c, h] at e; exact e
  · rw [upd_ne c]; exact s _ _ (by rw [upd_ne c]; exact e)
theorem tups_lock {H : Hp} {d : Addr} {kvs : List (Key × V)} {od : Obj} (h : H d = some (.dK kvs)) : Tups H (upd H d (.frz od (.dK kvs))) := tups_dk h
theorem spok_of {ls new : List Str} (ho : ThOk (.leaf ls)) (hn : ThOk (.leaf new)) : SpOk ls.length (spansOf ls new) 0 ∧ (∀ s ∈ spansOf ls new, (∀ l ∈ s.2.2, LineOk l) ∧ s.2.2.length ≤ 1000) ∧ (spansOf ls new).length ≤ 5000 :=
  ⟨spansOf_ok ls new, fun s hs => ⟨fun l hl => hn.1 l (spansOf_mem hs l hl), Nat.le_trans (spansGo_short hs) hn.2⟩, by have := spansOf_len ls new; have := ho.2; have := hn.2; omega⟩
section
variable {P : Program} {w : World} {K : PySem.W.Frag} {mg : Str → Option Value} {base : Heap}
/-! ### Pack.thing -/
def spPThing (K : PySem.W.Frag) (n : Nat) : Sp := fun vs H Q E => ∃ (p wd sd : Addr) (v : V) (ord : List Str) (ps : List PEnt), vs = [.ref p, v] ∧ PkMid (He.ga K "Pack") H p wd sd ord ps ∧ PkPlan ps ∧ VOk H v ∧
  ((∃ e ∈ ps, v = .str e.name ∧ e.steps ≤ n ∧ ∀ a H', Same H H' → ThAt H' a e.thing → Q (.ref a) H') ∨ (hasV (ps.map (·.name)) v = false ∧ E (.ref (He.ga K "NoName")) none H))
theorem sc_P_thing : FnScope ["self", "name", "base", "rows"] ["self", "name"] (defScope s_P_thing) := ⟨rfl, rfl, rfl, by decide +kernel, rfl, by decide +kernel, by decide +kernel⟩
theorem ok_P_thing (T : Tx K mg) : ∀ n, Gf P w K mg base (L2.CX P w) (4 + n) (He.ma K (He.ga K "Pack") "thing") ["self", "name"] (spPThing K n) := by
  have GP_need_name : Gf P w K mg base (L2.CX P w) 2 _ _ (spPNeed K) := ok_P_need_name T
  have G_patched : Gf P w K mg base CX0 3 _ _ spPatched := ok_patched T
  have body : ∀ n, (∀ n', n = n' + 1 → Gf P w K mg base (L2.CX P w) (4 + n') (He.ma K (He.ga K "Pack") "thing") ["self", "name"] (spPThing K n')) → Gf P w K mg base (L2.CX P w) (3 + n + 1) (He.ma K (He.ga K "Pack") "thing") ["self", "name"] (spPThing K n) := by
    intro n ih
    refine gf_of T.d_P_thing sc_P_thing (fun _ _ _ _ _ _ us hl => match us, hl with | [_, _], _ => rfl) (fun vs H Q E h => ?_) (fun cdv A outer s H vs Q E hr h => ?_)
    · obtain ⟨p, wd, sd, v, ord, ps, rfl, _⟩ := h; rfl
    · obtain ⟨p, wd, sd, v, ord, ps, rfl, M, pl, vo, k⟩ := h
      obtain ⟨dx, o, ws, ss, h1, h2, h3, h4, h5, h6⟩ := id M.ex
      have hr2 : Room 2 _ := hr.mono (by omega)
      have hr3 : Room 3 _ := hr.mono (by omega)
      rcases k with ⟨e, he, rfl, hn, k⟩ | ⟨kf, k⟩
      · rcases pk_find pl.nd h4 h6 he with ⟨q0, a, q1, qt⟩ | ⟨b, sp, a, r, as, q0, q1, q2, q3, q4, q5⟩
        · refine ⟨_, pss_cons (ps_expr (pe_mt T.clP T.mP_need_name GP_need_name hr2 passL (pv 0) (pa_cons (pv 1) pa_nil)))
            (pss_cons (ps_if (pt_cmp (pc_din (hu_of hr) (pv 1) (pe_fld (pv 0) rfl)) (by rfl)) (pss_one (ps_ret (pe_dget (hu_of hr) (pe_fld (pv 0) rfl) (pv 1) (fun _ _ => rfl)))) pss_nil) pss_never), ?_⟩
          refine ⟨_, rfl, p, dx, _, rfl, h1, pk_no, _, rfl, p, wd, sd, _, ord, ps, rfl, M, pl.nd, trivial, fun _ => ?_, fun c => ?_⟩
          · refine ⟨_, rfl, _, rfl, p, _, dx, _, _, rfl, h1, T.clP, T.aP_wholes, pk_wholes, wd, _, rfl, DGet.k (k := Sum.inr e.name) h3, _, rfl, ?_⟩
            refine itep (by rw [q1]; rfl) ?_
            have g := DGet.k (k := Sum.inr e.name) h3
            rw [q1] at g
            refine ⟨_, rfl, p, _, dx, _, _, rfl, h1, T.clP, T.aP_wholes, pk_wholes, _, rfl, wd, _, rfl, g, ?_⟩
            exact k a H (Same.refl H) qt
          · have : hasV (ps.map (·.name)) (.str e.name) = true := decide_eq_true (List.mem_map.mpr ⟨e, he, rfl⟩)
            rw [this] at c; cases c
        · obtain ⟨pre, post, ep⟩ := List.append_of_mem he
          have z := pl.ok pre e post ep
          unfold EntOk at z
          rw [q0] at z
          obtain ⟨f, hf, fn, fl, el, fs, f4, fsp⟩ := z
          have hf' : f ∈ ps := by rw [ep]; exact List.mem_append_left _ hf
          obtain ⟨n', rfl⟩ : ∃ n', n = n' + 1 := ⟨n - 1, by omega⟩
          have GP_thing := ih n' rfl
          have tf := pl.th f hf'
          have te := pl.th e he
          obtain ⟨old, eold⟩ : ∃ old, f.thing = .leaf old := by
            cases q : f.thing with
            | leaf ls => exact ⟨ls, rfl⟩
            | tree rs => rw [q] at fl; cases fl
            | note x y z => rw [q] at fl; cases fl
          obtain ⟨new, enew⟩ : ∃ new, e.thing = .leaf new := by
            cases q : e.thing with
            | leaf ls => exact ⟨ls, rfl⟩
            | tree rs => rw [q] at el; cases el
            | note x y z => rw [q] at el; cases el
          rw [eold, enew] at fsp
          rw [eold] at tf
          rw [enew] at te k
          change sp = spansOf old new at fsp
          subst fsp
          obtain ⟨so1, so2, so3⟩ := spok_of tf te
          refine ⟨_, pss_cons (ps_expr (pe_mt T.clP T.mP_need_name GP_need_name hr2 passL (pv 0) (pa_cons (pv 1) pa_nil)))
            (pss_cons (ps_if (pt_cmp (pc_din (hu_of hr) (pv 1) (pe_fld (pv 0) rfl)) (by rfl)) (pss_one (ps_ret (pe_dget (hu_of hr) (pe_fld (pv 0) rfl) (pv 1) (fun _ _ => rfl)))) pss_nil)
            (pss_cons (ps_asg (pe_dget (hu_of hr) (pe_fld (pv 0) rfl) (pv 1) (fun _ _ => rfl)) (pg_tup rfl (pgs_cons (pg_name (i := 2) sc_P_thing.nd rfl (Or.inl rfl)) (pgs_cons (pg_name (i := 3) sc_P_thing.nd rfl (Or.inl rfl)) pgs_nil))))
            (pss_one (ps_ret (pe_tup (pa_cons pe_str (pa_cons (pe_fn G_patched hr3 T.g_patched pass0 (pa_cons (pe_ix (r := rIxT K) ix_tup (pe_mt T.clP T.mP_thing GP_thing (hr.mono (by omega)) passL (pv 0) (pa_cons (pv 2) pa_nil)) pe_int (fun _ _ => rfl)) (pa_cons (pv 3) pa_nil))) pa_nil))))))), ?_⟩
          refine ⟨_, rfl, p, dx, _, rfl, h1, pk_no, _, rfl, p, wd, sd, _, ord, ps, rfl, M, pl.nd, trivial, fun _ => ?_, fun c => ?_⟩
          · refine ⟨_, rfl, _, rfl, p, _, dx, _, _, rfl, h1, T.clP, T.aP_wholes, pk_wholes, wd, _, rfl, DGet.k (k := Sum.inr e.name) h3, _, rfl, ?_⟩
            refine iten (by rw [q1]; simp) ?_
            have g := DGet.k (k := Sum.inr e.name) h5
            rw [q2] at g
            refine ⟨_, rfl, p, _, dx, _, _, rfl, h1, T.clP, T.aP_spans, pk_spans, _, rfl, sd, _, rfl, g, a, _, rfl, SqT.of q3, rfl, _, _, rfl, _, _, rfl, rfl, ?_⟩
            refine ⟨_, rfl, p, dx, _, rfl, h1, pk_no, _, rfl, p, wd, sd, _, ord, ps, rfl, M, pl, trivial, .inl ⟨f, hf', by rw [fn], by omega, fun a1 H1 s1 ta => ?_⟩⟩
            rw [eold] at ta
            obtain ⟨q, ta1, ta2⟩ := ta
            refine ⟨a1, _, _, _, rfl, rfl, SqT.of ta1, rfl, _, rfl, ?_⟩
            refine ⟨q, r, old, as, _, rfl, ta2, s1 _ _ q4, q5.mono (tups_of s1), so1, so2, ?_, tf.2, fun q2 H2 hq2 s2 l2 => ?_⟩
            · rw [patched_spans]; exact te.2
            · rw [patched_spans] at l2
              refine ⟨by show 2 ≤ sizeLine; decide, fun u hu => ?_⟩
              refine k u _ (Same.new (Same.trans s1 s2) hu) ⟨q2, upd_same, ?_⟩
              exact lsm (same_new hu) l2
          · have : hasV (ps.map (·.name)) (.str e.name) = true := decide_eq_true (List.mem_map.mpr ⟨e, he, rfl⟩)
            rw [this] at c; cases c
      · refine ⟨_, pss_cons (ps_expr (pe_mt T.clP T.mP_need_name GP_need_name hr2 (passT (takes_of rfl rfl rfl rfl)) (pv 0) (pa_cons (pv 1) pa_nil))) pss_never, ?_⟩
        refine ⟨_, rfl, p, dx, _, rfl, h1, pk_no, _, rfl, p, wd, sd, _, ord, ps, rfl, M, pl.nd, vo, fun c => ?_, fun _ => k⟩
        rw [kf] at c; cases c
  intro n
  induction n with
  | zero => exact body 0 (fun n' h => by cases h)
  | succ n ih =>
    have z := body (n + 1) (fun n' h => by cases h; exact ih)
    exact z.mono (by omega)
/-! ### Pack.names -/
def spPNames (K : PySem.W.Frag) : Sp := fun vs H Q _ => ∃ (p wd sd : Addr) (ord : List Str) (ps : List PEnt), vs = [.ref p] ∧ PkMid (He.ga K "Pack") H p wd sd ord ps ∧ ∀ l, H l = none → Q (.ref l) (upd H l (.lst (ord.map V.str)))
theorem sc_P_names : FnScope ["self"] ["self"] (defScope s_P_names) := ⟨rfl, rfl, rfl, by decide +kernel, rfl, by decide +kernel, by decide +kernel⟩
theorem ok_P_names (T : Tx K mg) : Gf P w K mg base CX0 1 (He.ma K (He.ga K "Pack") "names") ["self"] (spPNames K) := by
  refine gf0_of T.d_P_names sc_P_names (fun _ _ _ _ _ _ us hl => match us, hl with | [_], _ => rfl) (fun vs H Q E h => ?_) (fun cdv A outer s H vs Q E hr h => ?_)
  · obtain ⟨p, wd, sd, ord, ps, rfl, _⟩ := h; rfl
  · obtain ⟨p, wd, sd, ord, ps, rfl, M, k⟩ := h
    obtain ⟨dx, o, ws, ss, h1, h2, h3, h4, h5, h6⟩ := id M.ex
    refine ⟨_, pss_one (ps_ret (pe_callTy (r := rListK K) call_list_of rfl T.n_list (by decide +kernel) (pa_cons (pe_fld (pv 0) rfl) pa_nil))), ?_⟩
    exact ⟨_, rfl, p, _, dx, _, _, rfl, h1, T.clP, T.aP_order, pk_order, o, _, rfl, .inl (SqL.of h2), k⟩
/-! ### Pack.weight -/
def leafN (t : Thing) : Nat := t.lines.length
theorem paired_ix {α β : Type} {F : α → β → Prop} : ∀ {l : List α} {m : List β} {i : Nat} {x : α}, Paired F l m → l[i]? = some x → ∃ y, m[i]? = some y ∧ F x y
  | _, _, _, _, .nil, h => by cases h
  | _ :: _, _ :: _, 0, _, .cons a t, h => by cases h; exact ⟨_, rfl, a⟩
  | _ :: _, _ :: _, i + 1, _, .cons a t, h => by
    obtain ⟨y, h1, h2⟩ := paired_ix (i := i) t (by simpa using h)
    exact ⟨y, by simpa using h1, h2⟩
theorem ownV_ix {own : Own} {i : Nat} {k : Key} {v : V} (h : (ownV own)[i]? = some (k, v)) : ∃ n a, own[i]? = some (n, a) ∧ k = Sum.inr n ∧ v = .ref a := by
  obtain ⟨e, h1, h2⟩ := map_get h
  simp only [Prod.mk.injEq] at h2
  exact ⟨e.1, e.2, h1, h2.1, h2.2⟩
theorem ownV_at {own : Own} (nd : (own.map (·.1)).Nodup) {i : Nat} {n : Str} {a : Addr} (h : own[i]? = some (n, a)) : valV (ownV own) (Sum.inr n) = some (.ref a) := by
  induction own generalizing i with
  | nil => cases h
  | cons e r ih =>
    obtain ⟨n1, n2⟩ := List.nodup_cons.mp (show (e.1 :: r.map (·.1)).Nodup from nd)
    cases i with
    | zero =>
      have : e = (n, a) := by simpa using h
      show valV ((Sum.inr e.1, V.ref e.2) :: ownV r) _ = _
      rw [this]
      exact valV_pos rfl
    | succ i =>
      have h' : r[i]? = some (n, a) := by simpa using h
      show valV ((Sum.inr e.1, V.ref e.2) :: ownV r) _ = _
      rw [valV_neg (fun z => n1 (by rw [show e.1 = n from Sum.inr.inj z]; exact List.mem_map.mpr ⟨_, List.mem_of_getElem? h', rfl⟩))]
      exact ih n2 h'
def spPWeight (K : PySem.W.Frag) : Sp := fun vs H Q _ => ∃ (p wd sd : Addr) (ord : List Str) (ps : List PEnt), vs = [.ref p] ∧ PkMid (He.ga K "Pack") H p wd sd ord ps ∧ PkPlan ps ∧ ∀ H', Same H H' → Q (.int ((wtOf ps : Nat) : Int)) H'
theorem vias_wt (ps : List PEnt) : ((viasOf ps).map fun v => costOf v.2.2).sum = ((ps.filter fun p => !whole p).map entW).sum := by
  congr 1
  induction ps with
  | nil => rfl
  | cons p r ih =>
    unfold viasOf at ih ⊢
    rw [List.filterMap_cons, List.filter_cons]
    cases h : p.via with
    | none =>
      have hw : whole p = true := by unfold whole; rw [h]; rfl
      rw [hw]; exact ih
    | some v =>
      have hw : whole p = false := by unfold whole; rw [h]; rfl
      rw [hw]
      show _ :: _ = _ :: _
      rw [ih]
      congr 1
      unfold entW; rw [h]
theorem wholes_wt (ps : List PEnt) : ((wholesOf ps).map fun e => e.2.lines.length).sum = ((ps.filter whole).map fun p => p.thing.lines.length).sum := by
  unfold wholesOf; rw [List.map_map]; rfl
theorem pk_locked {K : PySem.W.Frag} {H : Hp} {p d : Addr} {C dx : Addr} {fs : List (Str × V)} {kvs : List (Key × V)} {od : Obj} (h1 : H p = some (.ins C dx fs)) (h : H d = some (.dK kvs)) : upd H d (.frz od (.dK kvs)) p = some (.ins C dx fs) := by
  rw [upd_ne (fun z => by rw [z, h] at h1; cases h1)]; exact h1
theorem sc_P_weight : FnScope ["self", "found", "name"] ["self"] (defScope s_P_weight) := ⟨rfl, rfl, rfl, by decide +kernel, rfl, by decide +kernel, by decide +kernel⟩
theorem ok_P_weight (T : Tx K mg) : Gf P w K mg base CX0 2 (He.ma K (He.ga K "Pack") "weight") ["self"] (spPWeight K) := by
  have G_cost_of : Gf P w K mg base CX0 1 _ _ spCost := ok_cost_of T
  refine gf0_of T.d_P_weight sc_P_weight (fun _ _ _ _ _ _ us hl => match us, hl with | [_], _ => rfl) (fun vs H Q E h => ?_) (fun cdv A outer s H vs Q E hr h => ?_)
  · obtain ⟨p, wd, sd, ord, ps, rfl, _⟩ := h; rfl
  · obtain ⟨p, wd, sd, ord, ps, rfl, M, pl, k⟩ := h
    obtain ⟨dx, o, ws, ss, h1, h2, h3, h4, h5, h6⟩ := id M.ex
    refine ⟨_, pss_cons (ps_set (i := 1) sc_P_weight.nd rfl (Or.inl rfl) pe_int)
      (pss_cons (ps_lock (ps_for PassesOwn.never rfl (pi_keys (pe_fld (pv 0) rfl)) (pg_name (i := 2) sc_P_weight.nd rfl (Or.inl rfl))
        (pss_one (ps_if (pt_cmpR op_eq (pe_ix (r := rIxT K) ix_tup (pe_dget (hu_of hr) (pe_fld (pv 0) rfl) (pv 2) (fun _ _ => rfl)) pe_int (fun _ _ => rfl)) pe_str (nomark _))
          (pss_one (ps_set (i := 1) sc_P_weight.nd rfl (Or.inl rfl) (pe_op op_add (pv 1) (pe_callB (r := rLen K) call_len rfl T.n_len (by decide +kernel) (pa_cons (pe_ix (r := rIxT K) ix_tup (pe_dget (hu_of hr) (pe_fld (pv 0) rfl) (pv 2) (fun _ _ => rfl)) pe_int (fun _ _ => rfl)) pa_nil)))))
          (pss_nil)))))
      (pss_cons (ps_lock (ps_for PassesOwn.never rfl (pi_keys (pe_fld (pv 0) rfl)) (pg_name (i := 2) sc_P_weight.nd rfl (Or.inl rfl))
        (pss_one (ps_set (i := 1) sc_P_weight.nd rfl (Or.inl rfl) (pe_op op_add (pv 1) (pe_fn G_cost_of (hr.mono (by decide)) T.g_cost_of pass0 (pa_cons (pe_ix (r := rIxT K) ix_tup (pe_dget (hu_of hr) (pe_fld (pv 0) rfl) (pv 2) (fun _ _ => rfl)) pe_int (fun _ _ => rfl)) pa_nil)))))))
      (pss_one (ps_ret (pv 1))))), ?_⟩
    have ndw : (ws.map (·.1)).Nodup := by rw [own_keys h4]; exact nd_wholes pl.nd
    have nds : (ss.map (·.1)).Nodup := by rw [via_keys h6]; exact nd_vias pl.nd
    have lw := Paired.length h4
    have ls := Paired.length h6
    refine ⟨wd, .dK (ownV ws), h3, True.intro, fun od => ?_⟩
    have g1 := pk_locked (K := K) (od := od) h1 h3
    refine ⟨_, rfl, p, _, dx, _, _, rfl, g1, T.clP, T.aP_wholes, pk_wholes, wd, od, rfl, .inl ⟨_, upd_same, for_it walk_keys (fun i σ H' => ∃ v2, σ = [some (.ref p), some (.int (((((wholesOf ps).take i).map fun e => e.2.lines.length).sum : Nat) : Int)), v2] ∧ H' = upd H wd (.frz od (.dK (ownV ws))))
      ⟨none, rfl, rfl⟩ (fun _ _ _ _ ⟨_, _, e⟩ => by rw [e]; exact upd_same) ?_ ?_⟩⟩
    · rintro i x σ H1 H2 hi ⟨v2, rfl, rfl⟩ ⟨rfl, key, vv, hx, rfl⟩
      obtain ⟨n, a, e1, rfl, rfl⟩ := ownV_ix hx
      obtain ⟨⟨n', t⟩, e2, e3, e4⟩ := paired_ix h4 e1
      have g3 : upd H wd (.frz od (.dK (ownV ws))) wd = some (.frz od (.dK (ownV ws))) := upd_same
      have gd : DGet (upd H wd (.frz od (.dK (ownV ws)))) wd (.str n) (some (.ref a)) := .inl ⟨_, Sum.inr n, .inr ⟨od, g3⟩, rfl, (ownV_at ndw e1).symm⟩
      have g4 : ThAt (upd H wd (.frz od (.dK (ownV ws)))) a t := e4.mono (tups_lock h3)
      have hsum : ((wholesOf ps).take (i + 1)).map (fun e => e.2.lines.length) = ((wholesOf ps).take i).map (fun e => e.2.lines.length) ++ [t.lines.length] := by rw [take_snoc e2, List.map_append]; rfl
      have cell : ∃ xs, upd H wd (.frz od (.dK (ownV ws))) a = some (.tup xs) := by
        cases t with
        | leaf ls => obtain ⟨q, z, _⟩ := g4; exact ⟨_, z⟩
        | tree rs => obtain ⟨q, as, z, _⟩ := g4; exact ⟨_, z⟩
        | note x y z => obtain ⟨q, z, _⟩ := g4; exact ⟨_, z⟩
      have hgo : ∀ (tg : Str) (xs : List V), upd H wd (.frz od (.dK (ownV ws))) a = some (.tup (.str tg :: xs)) → True := fun _ _ _ => trivial
      cases t with
      | leaf ls2 =>
        obtain ⟨q, z1, z2⟩ := g4
        refine ⟨_, rfl, p, _, dx, _, _, rfl, g1, T.clP, T.aP_wholes, pk_wholes, _, rfl, wd, _, rfl, gd, a, _, _, _, rfl, rfl, SqT.of z1, rfl, rfl, _, rfl, ?_⟩
        refine itep (decide_eq_true rfl) ?_
        refine ⟨_, rfl, _, rfl, p, _, dx, _, _, rfl, g1, T.clP, T.aP_wholes, pk_wholes, _, rfl, wd, _, rfl, gd, a, _, _, _, rfl, rfl, SqT.of z1, rfl, _, _, rfl, .inr ⟨_, SqT.of z2, rfl⟩, _, _, rfl, rfl, ?_⟩
        refine ⟨some (.str n), ?_, rfl⟩
        rw [hsum, List.sum_append]
        show [_, some (V.int (_ + _)), _] = [_, some (V.int _), _]
        have e : ((((((wholesOf ps).take i).map fun e => e.2.lines.length).sum : Nat) : Int) + (((ls2.map V.str).length : Nat) : Int)) = (((((wholesOf ps).take i).map fun e => e.2.lines.length).sum + [Thing.lines (.leaf ls2) |>.length].sum : Nat) : Int) := by
          rw [List.length_map]
          show _ = (((_ : Nat) + (ls2.length + 0) : Nat) : Int)
          omega
        rw [e]; rfl
      | tree rs =>
        obtain ⟨q, as, z1, z2⟩ := g4
        refine ⟨_, rfl, p, _, dx, _, _, rfl, g1, T.clP, T.aP_wholes, pk_wholes, _, rfl, wd, _, rfl, gd, a, _, _, _, rfl, rfl, SqT.of z1, rfl, rfl, _, rfl, ?_⟩
        refine iten (ne_s (by decide)) ?_
        refine ⟨some (.str n), ?_, rfl⟩
        rw [hsum, List.sum_append]
        rfl
      | note tn pn wn =>
        obtain ⟨q, z1, z2⟩ := g4
        refine ⟨_, rfl, p, _, dx, _, _, rfl, g1, T.clP, T.aP_wholes, pk_wholes, _, rfl, wd, _, rfl, gd, a, _, _, _, rfl, rfl, SqT.of z1, rfl, rfl, _, rfl, ?_⟩
        refine iten (ne_s (by decide)) ?_
        refine ⟨some (.str n), ?_, rfl⟩
        rw [hsum, List.sum_append]
        rfl
    · rintro σ H1 ⟨v2, rfl, rfl⟩
      rw [ownV_len, lw, List.take_length]
      refine ⟨upd_same, ?_⟩
      have eH : upd (upd H wd (.frz od (.dK (ownV ws)))) wd (.dK (ownV ws)) = H := by
        funext b
        by_cases c : b = wd
        · rw [c, upd_same, h3]
        · rw [upd_ne c, upd_ne c]
      rw [eH]
      refine ⟨sd, .dK (ownV ss), h5, True.intro, fun od => ?_⟩
      have g1 := pk_locked (K := K) (od := od) h1 h5
      refine ⟨_, rfl, p, _, dx, _, _, rfl, g1, T.clP, T.aP_spans, pk_spans, sd, od, rfl, .inl ⟨_, upd_same, for_it walk_keys (fun i σ H' => ∃ v2, σ = [some (.ref p), some (.int (((((wholesOf ps).map fun e => e.2.lines.length).sum + (((viasOf ps).take i).map fun v => costOf v.2.2).sum : Nat) : Int))), v2] ∧ Same (upd H sd (.frz od (.dK (ownV ss)))) H')
        ⟨v2, rfl, Same.refl _⟩ (fun _ _ _ _ ⟨_, _, e⟩ => e _ _ upd_same) ?_ ?_⟩⟩
      · rintro i x σ H1 H2 hi ⟨v2, rfl, hs⟩ ⟨rfl, key, vv, hx, rfl⟩
        obtain ⟨n, a, e1, rfl, rfl⟩ := ownV_ix hx
        obtain ⟨⟨n', b, sp⟩, e2, e3, r, as, e4, e5, e6⟩ := paired_ix h6 e1
        have ng : ∀ {c : Addr} {o2 : HO}, H c = some o2 → (∀ kvs, o2 ≠ .dK kvs) → upd H sd (.frz od (.dK (ownV ss))) c = some o2 := fun hc ho => by
          rw [upd_ne (ne_of hc h5 (ho _))]; exact hc
        have gd : DGet H2 sd (.str n) (some (.ref a)) := .inl ⟨_, Sum.inr n, .inr ⟨od, hs _ _ upd_same⟩, rfl, (ownV_at nds e1).symm⟩
        have mem : (n', b, sp) ∈ viasOf ps := List.mem_of_getElem? e2
        obtain ⟨f, hf, fv, fn⟩ := mem_vias.mp mem
        obtain ⟨pre, post, ep⟩ := List.append_of_mem hf
        have z := pl.ok pre f post ep
        unfold EntOk at z
        rw [fv] at z
        obtain ⟨g, hg, gn, gl, fl, gs, g4, gsp⟩ := z
        have hg' : g ∈ ps := by rw [ep]; exact List.mem_append_left _ hg
        have tg := pl.th g hg'
        have tf := pl.th f hf
        have lgo : g.thing.lines.length ≤ 1000 := by
          cases q : g.thing with
          | leaf l => rw [q] at tg; exact tg.2
          | tree l => exact Nat.zero_le _
          | note x y z => exact Nat.zero_le _
        have lfo : f.thing.lines.length ≤ 1000 := by
          cases q : f.thing with
          | leaf l => rw [q] at tf; exact tf.2
          | tree l => exact Nat.zero_le _
          | note x y z => exact Nat.zero_le _
        have b1 : sp.length ≤ 5000 := by rw [gsp]; have := spansOf_len g.thing.lines f.thing.lines; omega
        have b2 : ∀ s ∈ sp, s.2.2.length ≤ 5000 := fun s hs => by rw [gsp] at hs; exact Nat.le_trans (spansGo_short hs) (by omega)
        refine ⟨_, rfl, _, rfl, p, _, dx, _, _, rfl, hs _ _ g1, T.clP, T.aP_spans, pk_spans, _, rfl, sd, _, rfl, gd, a, _, _, _, rfl, rfl, SqT.of (hs _ _ (ng e4 (fun _ z => nomatch z))), rfl, ?_⟩
        refine ⟨r, as, sp, rfl, hs _ _ (ng e5 (fun _ z => nomatch z)), e6.mono (Tups.trans (tups_lock h5) (tups_of hs)), b1, b2, fun H3 s3 => ?_⟩
        refine ⟨_, _, rfl, rfl, some (.str n), ?_, Same.trans hs s3⟩
        rw [take_snoc e2, List.map_append, List.sum_append]
        show [_, some (V.int (_ + _)), _] = [_, some (V.int _), _]
        have e : ((((((wholesOf ps).map fun e => e.2.lines.length).sum + (((viasOf ps).take i).map fun v => costOf v.2.2).sum : Nat) : Int)) + ((costOf sp : Nat) : Int)) = ((((wholesOf ps).map fun e => e.2.lines.length).sum + ((((viasOf ps).take i).map fun v => costOf v.2.2).sum + ([(n', b, sp)].map fun v => costOf v.2.2).sum) : Nat) : Int) := by
          show _ = (((_ : Nat) + ((_ : Nat) + (costOf sp + 0)) : Nat) : Int)
          omega
        rw [e]; rfl
      · rintro σ H1 ⟨v2, rfl, hs⟩
        rw [ownV_len, ls, List.take_length, wholes_wt, vias_wt, wt_split]
        exact ⟨hs _ _ upd_same, _, rfl, k _ (same_unlock h5 hs)⟩
end
end An

namespace An
open PySem PySem.Spec L2
/-! ### stores, told by which class they are of -/
def clB (K : PySem.W.Frag) (b : Bool) : Addr := cond b (He.ga K "Pack") (He.ga K "Shelf")
def StB (P : Program) (w : World) (CP CS : Addr) (n : Nat) (b : Bool) (H : Hp) (p : Addr) (L : Cont) : Prop := match b with
  | true => PackAt CP H p L
  | false => ∃ o t g, ShAt P w CP CS n H p o t g L
section
variable {P : Program} {w : World} {CP CS : Addr} {n : Nat} {H H' : Hp} {p : Addr} {L : Cont} {b : Bool}
theorem StB.st (h : StB P w CP CS n b H p L) : StAt P w CP CS n H p L := by
  cases b with
  | true => exact .pack h
  | false => obtain ⟨o, t, g, h⟩ := h; exact h.st
theorem StB.ok (h : StB P w CP CS n b H p L) : StOk L := h.st.ok
theorem StB.mono (s : Same H H') (h : StB P w CP CS n b H p L) : StB P w CP CS n b H' p L := by
  cases b with
  | true => exact PackAt.mono s h
  | false => obtain ⟨o, t, g, h⟩ := h; exact ⟨o, t, g, h.mono s⟩
theorem stB_of (h : StAt P w CP CS n H p L) : ∃ b, StB P w CP CS n b H p L := by
  cases h with
  | pack k => exact ⟨true, k⟩
  | shelf0 k => exact ⟨false, _, _, _, .non, [], L, rfl, k, .inl ⟨rfl, rfl⟩⟩
  | @shelf1 n _ hb _ b o t g Lb Lo kb s ho ht hg k => exact ⟨false, _, _, _, .ref b, Lb, Lo, rfl, k, .inr ⟨n, b, hb, rfl, rfl, kb, s, ho, ht, hg⟩⟩
end
def spHas (P : Program) (w : World) (K : PySem.W.Frag) (n : Nat) (b : Bool) : Sp := fun vs H Q _ => ∃ p v L, vs = [.ref p, v] ∧ StB P w (He.ga K "Pack") (He.ga K "Shelf") n b H p L ∧ VOk H v ∧ Q (.bl (hasV (nms L) v)) H
def spThing (P : Program) (w : World) (K : PySem.W.Frag) (n : Nat) (b : Bool) : Sp := fun vs H Q E => ∃ p v L, vs = [.ref p, v] ∧ StB P w (He.ga K "Pack") (He.ga K "Shelf") n b H p L ∧ VOk H v ∧
  ((∃ z t, (z, t) ∈ L ∧ v = .str z ∧ ∀ a H', Same H H' → ThAt H' a t → Q (.ref a) H') ∨ (hasV (nms L) v = false ∧ E (.ref (He.ga K "NoName")) none H))
def spNames (P : Program) (w : World) (K : PySem.W.Frag) (n : Nat) (b : Bool) : Sp := fun vs H Q _ => ∃ p L, vs = [.ref p] ∧ StB P w (He.ga K "Pack") (He.ga K "Shelf") n b H p L ∧
  ∀ l H', H l = none → Same H H' → H' l = some (.lst ((nms L).map V.str)) → Q (.ref l) H'
structure Api (P : Program) (w : World) (K : PySem.W.Frag) (mg : Str → Option Value) (base : Heap) (n k : Nat) (b : Bool) : Prop where
  cl : Cls K (clB K b)
  m_has : Meth K (clB K b) "has" (He.ma K (clB K b) "has")
  m_thing : Meth K (clB K b) "thing" (He.ma K (clB K b) "thing")
  m_names : Meth K (clB K b) "names" (He.ma K (clB K b) "names")
  G_has : Gf P w K mg base CX0 k (He.ma K (clB K b) "has") ["self", "name"] (spHas P w K n b)
  G_thing : Gf P w K mg base (L2.CX P w) k (He.ma K (clB K b) "thing") ["self", "name"] (spThing P w K n b)
  G_names : Gf P w K mg base CX0 k (He.ma K (clB K b) "names") ["self"] (spNames P w K n b)
theorem st_ins {P : Program} {w : World} {K : PySem.W.Frag} {n : Nat} {b : Bool} {H : Hp} {p : Addr} {L : Cont} (h : StB P w (He.ga K "Pack") (He.ga K "Shelf") n b H p L) :
    ∃ dx fs, H p = some (.ins (clB K b) dx fs) ∧ fs.lookup ("has" : Str) = none ∧ fs.lookup ("thing" : Str) = none ∧ fs.lookup ("names" : Str) = none := by
  cases b with
  | true =>
    obtain ⟨⟨wd, sd, M⟩, _⟩ := h
    obtain ⟨dx, o, ws, ss, h1, _⟩ := M.ex
    exact ⟨dx, _, h1, pk_no, pk_no, pk_no⟩
  | false =>
    obtain ⟨o, t, g, vb, Lb, Lo, _, c, _⟩ := h
    obtain ⟨dx, h1⟩ := c.ins
    exact ⟨dx, _, h1, sh_no, sh_no, sh_no⟩
theorem Api.mono {P : Program} {w : World} {K : PySem.W.Frag} {mg : Str → Option Value} {base : Heap} {n j k : Nat} {b : Bool} (W : Api P w K mg base n j b) (h : j ≤ k) : Api P w K mg base n k b :=
  ⟨W.cl, W.m_has, W.m_thing, W.m_names, W.G_has.mono h, W.G_thing.mono h, W.G_names.mono h⟩
theorem vok_same {H H' : Hp} (s : Same H H') {v : V} (h : VOk H v) : VOk H' v := by
  cases v with
  | str z => trivial
  | non => trivial
  | int i => trivial
  | ref a => obtain ⟨xs, h⟩ := h; exact ⟨xs, s _ _ h⟩
  | bl b => exact h.elim
  | byt b => exact h.elim
  | flt b => exact h.elim
  | ty n => exact h.elim
theorem own_has {H : Hp} {own : Own} {L : Cont} (o : OwnAt H own L) (n : Str) : (valV (ownV own) (Sum.inr n)).isSome = decide (n ∈ nms L) := by
  rw [← own_keys o]
  clear o
  induction own with
  | nil => rfl
  | cons e r ih =>
    show (valV ((Sum.inr e.1, V.ref e.2) :: ownV r) _).isSome = decide (n ∈ e.1 :: r.map (·.1))
    by_cases c : e.1 = n
    · rw [valV_pos (by show (Sum.inr e.1 : Key) = Sum.inr n; rw [c])]
      rw [c]; simp
    · rw [valV_neg (fun z => c (Sum.inr.inj z)), ih]
      have : ¬ n = e.1 := fun z => c z.symm
      simp [this]
section
variable {P : Program} {w : World} {K : PySem.W.Frag} {mg : Str → Option Value} {base : Heap}
theorem api_pack (T : Tx K mg) (n : Nat) : Api P w K mg base n 8 true := by
  refine ⟨T.clP, T.mP_has, T.mP_thing, T.mP_names, ((ok_P_has T).mono (by decide)).imp ?_, (ok_P_thing T 4).imp ?_, ((ok_P_names T).mono (by decide)).imp ?_⟩
  · rintro vs H Q E ⟨p, v, L, rfl, h, vo, k⟩
    obtain ⟨⟨wd, sd, M⟩, ok⟩ := h
    exact ⟨p, wd, sd, v, _, _, rfl, M, (plan_ok ok).nd, vo, by rw [planAll_names]; exact k⟩
  · rintro vs H Q E ⟨p, v, L, rfl, h, vo, k⟩
    obtain ⟨⟨wd, sd, M⟩, ok⟩ := h
    refine ⟨p, wd, sd, v, _, _, rfl, M, plan_ok ok, vo, ?_⟩
    rcases k with ⟨z, t, m, rfl, k⟩ | ⟨k1, k2⟩
    · have m' : (z, t) ∈ (planAll L).map (fun p => (p.name, p.thing)) := by rw [planAll_map]; exact m
      obtain ⟨e, he, q⟩ := List.mem_map.mp m'
      simp only [Prod.mk.injEq] at q
      refine .inl ⟨e, he, by rw [q.1], ?_, by rw [q.2]; exact k⟩
      obtain ⟨pre, post, ep⟩ := List.append_of_mem he
      have y := planAll_ok L pre e post ep
      unfold EntOk at y
      cases c : e.via with
      | none => rw [c] at y; have y' : e.steps = 0 := y; omega
      | some bs => rw [c] at y; obtain ⟨_, _, _, _, _, _, y, _⟩ := y; exact y
    · exact .inr ⟨by rw [planAll_names]; exact k1, k2⟩
  · rintro vs H Q E ⟨p, L, rfl, h, k⟩
    obtain ⟨⟨wd, sd, M⟩, ok⟩ := h
    exact ⟨p, wd, sd, _, _, rfl, M, fun l hl => k l _ hl (same_new hl) upd_same⟩
/-! ### Shelf.has -/
theorem sc_S_has : FnScope ["self", "name"] ["self", "name"] (defScope s_S_has) := ⟨rfl, rfl, rfl, by decide +kernel, rfl, by decide +kernel, by decide +kernel⟩
theorem ok_S_has (T : Tx K mg) (n k : Nat) (api : ∀ m b, n = m + 1 → Api P w K mg base m k b) : Gf P w K mg base CX0 (k + 1) (He.ma K (He.ga K "Shelf") "has") ["self", "name"] (spHas P w K n false) := by
  refine gf0_of T.d_S_has sc_S_has (fun _ _ _ _ _ _ us hl => match us, hl with | [_, _], _ => rfl) (fun vs H Q E h => ?_) (fun cdv A outer s H vs Q E hr h => ?_)
  · obtain ⟨p, v, L, rfl, _⟩ := h; rfl
  · obtain ⟨p, v, L, rfl, ⟨o, t, g, vb, Lb, Lo, rfl, C, kind⟩, vo, k⟩ := h
    obtain ⟨tn, ty, kt⟩ := vok_ty (K := K) vo
    obtain ⟨dx, h1⟩ := C.ins
    obtain ⟨ow, h2, h3⟩ := C.own
    rcases kind with ⟨rfl, rfl⟩ | ⟨m, b, hb, rfl, rfl, kb, s1, _⟩
    · refine ⟨_, pss_cons (ps_if (pt_not (pt_val (pe_callB (r := rIsi K) call_isi rfl T.n_isinstance (by decide +kernel) (pa_cons (pv 1) (pa_cons (pe_tyv "str" T.n_str) pa_nil)))))
        (pss_one (ps_ret pe_bl))
        (pss_nil))
      (pss_one (ps_ret (pe_or (pe_cmp (pc_din (hu_of hr) (pv 1) (pe_fld (pv 0) rfl)) (by rfl)) (pe_one (pe_and (pe_cmp (pc_notN (pe_fld (pv 0) rfl))) (pe_one pe_never)))))), ?_⟩
      refine ⟨_, rfl, _, _, _, _, _, rfl, .ty _, ty, kit_ty kt, _, rfl, ?_⟩
      cases v with
      | str z =>
        refine ⟨_, rfl, _, rfl, p, _, dx, _, _, rfl, h1, T.clS, T.aS_own, sh_own, o, _, rfl, DGet.k (k := Sum.inr z) h2, _, rfl, ?_⟩
        rw [own_has h3]
        have e : hasV (nms ([] ++ Lo)) (.str z) = decide (z ∈ nms Lo) := rfl
        rw [e] at k
        by_cases c : z ∈ nms Lo
        · refine itep (decide_eq_true c) ?_
          rw [decide_eq_true c] at k
          exact k
        · refine iten (by simp [c]) ?_
          refine ⟨_, rfl, p, _, dx, _, _, rfl, h1, T.clS, T.aS_base, sh_base, _, rfl, ?_⟩
          rw [decide_eq_false c] at k
          exact k
      | non => exact k
      | int i => exact k
      | ref a => exact k
      | bl b => exact vo.elim
      | byt b => exact vo.elim
      | flt b => exact vo.elim
      | ty n => exact vo.elim
    · obtain ⟨bb, kB⟩ := stB_of (kb.mono s1)
      have W := api m bb rfl
      obtain ⟨dxb, fsb, i1, i2, i3, i4⟩ := st_ins kB
      refine ⟨_, pss_cons (ps_if (pt_not (pt_val (pe_callB (r := rIsi K) call_isi rfl T.n_isinstance (by decide +kernel) (pa_cons (pv 1) (pa_cons (pe_tyv "str" T.n_str) pa_nil)))))
        (pss_one (ps_ret pe_bl))
        (pss_nil))
      (pss_one (ps_ret (pe_or (pe_cmp (pc_din (hu_of hr) (pv 1) (pe_fld (pv 0) rfl)) (by rfl)) (pe_one (pe_and (pe_cmp (pc_notN (pe_fld (pv 0) rfl))) (pe_one (pe_mt W.cl W.m_has W.G_has (hr.mono (by omega)) pass0 (pe_fld (pv 0) rfl) (pa_cons (pv 1) pa_nil)))))))), ?_⟩
      refine ⟨_, rfl, _, _, _, _, _, rfl, .ty _, ty, kit_ty kt, _, rfl, ?_⟩
      cases v with
      | str z =>
        refine ⟨_, rfl, _, rfl, p, _, dx, _, _, rfl, h1, T.clS, T.aS_own, sh_own, o, _, rfl, DGet.k (k := Sum.inr z) h2, _, rfl, ?_⟩
        rw [own_has h3]
        have e : hasV (nms (Lb ++ Lo)) (.str z) = (decide (z ∈ nms Lo) || decide (z ∈ nms Lb)) := by
          show decide (z ∈ nms (Lb ++ Lo)) = _
          rw [nms_append]
          simp [Bool.or_comm]
        rw [e] at k
        by_cases c : z ∈ nms Lo
        · refine itep (decide_eq_true c) ?_
          rw [decide_eq_true c] at k
          exact k
        · refine iten (by simp [c]) ?_
          refine ⟨_, rfl, p, _, dx, _, _, rfl, h1, T.clS, T.aS_base, sh_base, _, rfl, ?_⟩
          refine ⟨_, rfl, p, _, dx, _, _, rfl, h1, T.clS, T.aS_base, sh_base, b, dxb, fsb, rfl, i1, i2, _, rfl, b, _, Lb, rfl, kB, vo, ?_⟩
          rw [decide_eq_false c] at k
          exact k
      | non => exact k
      | int i => exact k
      | ref a => exact k
      | bl b => exact vo.elim
      | byt b => exact vo.elim
      | flt b => exact vo.elim
      | ty n => exact vo.elim
/-! ### Shelf.thing -/
theorem sc_S_thing : FnScope ["self", "name"] ["self", "name"] (defScope s_S_thing) := ⟨rfl, rfl, rfl, by decide +kernel, rfl, by decide +kernel, by decide +kernel⟩
theorem ok_S_thing (T : Tx K mg) (n k : Nat) (api : ∀ m b, n = m + 1 → Api P w K mg base m k b) : Gf P w K mg base (L2.CX P w) (k + 2) (He.ma K (He.ga K "Shelf") "thing") ["self", "name"] (spThing P w K n false) := by
  have GS_has := ok_S_has T n k api
  refine gf_of T.d_S_thing sc_S_thing (fun _ _ _ _ _ _ us hl => match us, hl with | [_, _], _ => rfl) (fun vs H Q E h => ?_) (fun cdv A outer s H vs Q E hr h => ?_)
  · obtain ⟨p, v, L, rfl, _⟩ := h; rfl
  · obtain ⟨p, v, L, rfl, sb, vo, k⟩ := h
    obtain ⟨o, t, g, vb, Lb, Lo, rfl, C, kind⟩ := id sb
    obtain ⟨dx, h1⟩ := C.ins
    obtain ⟨ow, h2, h3⟩ := C.own
    rcases k with ⟨z, th, hm, rfl, k⟩ | ⟨k1, k2⟩
    · have hh : hasV (nms (Lb ++ Lo)) (.str z) = true := decide_eq_true (nms_mem hm)
      by_cases c : z ∈ nms Lo
      · refine ⟨_, pss_cons (ps_if (pt_not (pt_val (pe_mt T.clS T.mS_has GS_has (hr.mono (by omega)) pass0 (pv 0) (pa_cons (pv 1) pa_nil))))
        (pss_one (ps_never))
        (pss_nil))
      (pss_cons (ps_if (pt_cmp (pc_din (hu_of hr) (pv 1) (pe_fld (pv 0) rfl)) (by rfl))
        (pss_one (ps_ret (pe_dget (hu_of hr) (pe_fld (pv 0) rfl) (pv 1) (fun _ _ => rfl))))
        (pss_nil))
      (pss_one (ps_ret pe_never))), ?_⟩
        refine ⟨_, rfl, p, dx, _, rfl, h1, sh_no, _, rfl, p, _, _, rfl, sb, vo, _, rfl, ?_⟩
        rw [hh]
        refine ⟨_, rfl, _, rfl, p, _, dx, _, _, rfl, h1, T.clS, T.aS_own, sh_own, o, _, rfl, DGet.k (k := Sum.inr z) h2, _, rfl, ?_⟩
        rw [own_has h3]
        refine itep (decide_eq_true c) ?_
        obtain ⟨t2, m2⟩ := mem_nms c
        have nd := C.ok.nd
        have ndo : (nms Lo).Nodup := by rw [nms_append] at nd; exact (List.nodup_append.mp nd).2.1
        have e2 : t2 = th := thing_uniq nd (List.mem_append_right _ m2) hm
        obtain ⟨a, q1, q2⟩ := own_some h3 ndo m2
        have gd := DGet.k (k := Sum.inr z) h2
        rw [q1] at gd
        refine ⟨_, rfl, p, _, dx, _, _, rfl, h1, T.clS, T.aS_own, sh_own, _, rfl, o, _, rfl, gd, ?_⟩
        rw [e2] at q2
        exact k a H (Same.refl H) q2
      · rcases kind with ⟨rfl, rfl⟩ | ⟨m, b, hb, rfl, rfl, kb, s1, _⟩
        · exact absurd (nms_mem hm) c
        · obtain ⟨bb, kB⟩ := stB_of (kb.mono s1)
          have W := api m bb rfl
          obtain ⟨dxb, fsb, i1, i2, i3, i4⟩ := st_ins kB
          refine ⟨_, pss_cons (ps_if (pt_not (pt_val (pe_mt T.clS T.mS_has GS_has (hr.mono (by omega)) pass0 (pv 0) (pa_cons (pv 1) pa_nil))))
        (pss_one (ps_never))
        (pss_nil))
      (pss_cons (ps_if (pt_cmp (pc_din (hu_of hr) (pv 1) (pe_fld (pv 0) rfl)) (by rfl))
        (pss_one (ps_ret (pe_dget (hu_of hr) (pe_fld (pv 0) rfl) (pv 1) (fun _ _ => rfl))))
        (pss_nil))
      (pss_one (ps_ret (pe_mt W.cl W.m_thing W.G_thing (hr.mono (by omega)) passL (pe_fld (pv 0) rfl) (pa_cons (pv 1) pa_nil))))), ?_⟩
          refine ⟨_, rfl, p, dx, _, rfl, h1, sh_no, _, rfl, p, _, _, rfl, sb, vo, _, rfl, ?_⟩
          rw [hh]
          refine ⟨_, rfl, _, rfl, p, _, dx, _, _, rfl, h1, T.clS, T.aS_own, sh_own, o, _, rfl, DGet.k (k := Sum.inr z) h2, _, rfl, ?_⟩
          rw [own_has h3]
          refine iten (by simp [c]) ?_
          refine ⟨_, rfl, p, _, dx, _, _, rfl, h1, T.clS, T.aS_base, sh_base, b, dxb, fsb, rfl, i1, i3, _, rfl, b, _, Lb, rfl, kB, vo, .inl ⟨z, th, ?_, rfl, k⟩⟩
          rcases List.mem_append.mp hm with q | q
          · exact q
          · exact absurd (nms_mem q) c
    · refine ⟨_, pss_cons (ps_if (pt_not (pt_val (pe_mt T.clS T.mS_has GS_has (hr.mono (by omega)) pass0 (pv 0) (pa_cons (pv 1) pa_nil))))
        (pss_one (ps_raise rfl (takes_of rfl rfl rfl rfl) (pmk_own PySem.F.excBase_ValueError T.xN.1 T.g_NoName T.xN.2.1 (raises_own T.xN.2.2.1 T.xN.2.2.2) rfl)))
        (pss_nil))
      (pss_cons (ps_if (pt_cmp (pc_din (hu_of hr) (pv 1) (pe_fld (pv 0) rfl)) (by rfl))
        (pss_one (ps_ret (pe_dget (hu_of hr) (pe_fld (pv 0) rfl) (pv 1) (fun _ _ => rfl))))
        (pss_nil))
      (pss_one (ps_ret pe_never))), ?_⟩
      refine ⟨_, rfl, p, dx, _, rfl, h1, sh_no, _, rfl, p, _, _, rfl, sb, vo, _, rfl, ?_⟩
      rw [k1]
      exact k2
/-! ### Shelf.names -/
theorem ownV_kv (ow : Own) : (ownV ow).map (fun e => kV e.1) = (ow.map (·.1)).map V.str := by unfold ownV; rw [List.map_map, List.map_map]; rfl
theorem sc_S_names : FnScope ["self"] ["self"] (defScope s_S_names) := ⟨rfl, rfl, rfl, by decide +kernel, rfl, by decide +kernel, by decide +kernel⟩
theorem ok_S_names (T : Tx K mg) (n k : Nat) (api : ∀ m b, n = m + 1 → Api P w K mg base m k b) : Gf P w K mg base CX0 (k + 1) (He.ma K (He.ga K "Shelf") "names") ["self"] (spNames P w K n false) := by
  refine gf0_of T.d_S_names sc_S_names (fun _ _ _ _ _ _ us hl => match us, hl with | [_], _ => rfl) (fun vs H Q E h => ?_) (fun cdv A outer s H vs Q E hr h => ?_)
  · obtain ⟨p, L, rfl, _⟩ := h; rfl
  · obtain ⟨p, L, rfl, sb, k⟩ := h
    obtain ⟨o, t, g, vb, Lb, Lo, rfl, C, kind⟩ := id sb
    obtain ⟨dx, h1⟩ := C.ins
    obtain ⟨ow, h2, h3⟩ := C.own
    have keys : (ownV ow).map (fun e => kV e.1) = (nms Lo).map V.str := by rw [ownV_kv, own_keys h3]
    rcases kind with ⟨rfl, rfl⟩ | ⟨m, b, hb, rfl, rfl, kb, s1, _⟩
    · refine ⟨_, pss_cons (ps_if (pt_cmp (pc_isN (pe_fld (pv 0) rfl)))
        (pss_one (ps_ret (pe_callTy (call_list_dK rfl) rfl T.n_list (by decide +kernel) (pa_cons (pe_fld (pv 0) rfl) pa_nil))))
        (pss_nil))
      (pss_one (ps_ret (pe_op op_cat pe_never (pe_callTy (call_list_dK rfl) rfl T.n_list (by decide +kernel) (pa_cons (pe_fld (pv 0) rfl) pa_nil))))), ?_⟩
      refine ⟨_, rfl, p, _, dx, _, _, rfl, h1, T.clS, T.aS_base, sh_base, _, rfl, ?_⟩
      refine ⟨_, rfl, p, _, dx, _, _, rfl, h1, T.clS, T.aS_own, sh_own, o, _, rfl, h2, fun l hl => ?_⟩
      exact k l _ hl (same_new hl) (by rw [upd_same, keys]; rfl)
    · obtain ⟨bb, kB⟩ := stB_of (kb.mono s1)
      have W := api m bb rfl
      obtain ⟨dxb, fsb, i1, i2, i3, i4⟩ := st_ins kB
      refine ⟨_, pss_cons (ps_if (pt_cmp (pc_isN (pe_fld (pv 0) rfl)))
        (pss_one (ps_ret (pe_callTy (call_list_dK rfl) rfl T.n_list (by decide +kernel) (pa_cons (pe_fld (pv 0) rfl) pa_nil))))
        (pss_nil))
      (pss_one (ps_ret (pe_op op_cat (pe_mt0 W.cl W.m_names W.G_names (hr.mono (by omega)) pass0 (pe_fld (pv 0) rfl)) (pe_callTy (call_list_dK rfl) rfl T.n_list (by decide +kernel) (pa_cons (pe_fld (pv 0) rfl) pa_nil))))), ?_⟩
      refine ⟨_, rfl, p, _, dx, _, _, rfl, h1, T.clS, T.aS_base, sh_base, _, rfl, ?_⟩
      refine ⟨_, rfl, p, _, dx, _, _, rfl, h1, T.clS, T.aS_base, sh_base, b, dxb, fsb, rfl, i1, i4, b, Lb, rfl, kB, fun l1 H1 hl1 s2 hd1 => ?_⟩
      refine ⟨_, rfl, p, _, dx, _, _, rfl, s2 _ _ h1, T.clS, T.aS_own, sh_own, o, _, rfl, s2 _ _ h2, fun l2 hl2 => ?_⟩
      have s3 := Same.new (o := .lst ((ownV ow).map fun e => kV e.1)) s2 hl2
      have n12 : l1 ≠ l2 := ne_of_none hd1 hl2
      have sz := C.ok.sz
      refine ⟨l1, l2, _, _, rfl, rfl, by rw [upd_ne n12]; exact hd1, upd_same, le_line ?_, fun l3 hl3 => ?_⟩
      · rw [keys, List.length_map, List.length_map]; unfold nms; rw [List.length_map, List.length_map, ← List.length_append]; omega
      · refine k l3 _ (L2.Same.free s3 hl3) (Same.new s3 hl3) ?_
        rw [upd_same, keys, nms_append, List.map_append]
theorem api_shelf (T : Tx K mg) (n k : Nat) (api : ∀ m b, n = m + 1 → Api P w K mg base m k b) : Api P w K mg base n (k + 2) false :=
  ⟨T.clS, T.mS_has, T.mS_thing, T.mS_names, (ok_S_has T n k api).mono (by omega), ok_S_thing T n k api, (ok_S_names T n k api).mono (by omega)⟩
/-- all there is, one base deep -/
theorem api0 (T : Tx K mg) : ∀ b, Api P w K mg base 0 12 b
  | true => (api_pack T 0).mono (by decide)
  | false => (api_shelf T 0 10 fun _ _ h => by cases h).mono (by decide)
theorem api1 (T : Tx K mg) : ∀ b, Api P w K mg base 1 14 b
  | true => (api_pack T 1).mono (by decide)
  | false => (api_shelf T 1 12 fun m b h => by cases h; exact api0 T b).mono (by decide)
end
end An

namespace An
open PySem PySem.Spec L2
/-! ### a dict of names seen -/
def seenV (S : List Str) : List (Key × V) := S.map fun z => (Sum.inr z, V.bl true)
theorem seen_has (S : List Str) (n : Str) : (valV (seenV S) (Sum.inr n)).isSome = decide (n ∈ S) := by
  induction S with
  | nil => rfl
  | cons e r ih =>
    show (valV ((Sum.inr e, V.bl true) :: seenV r) _).isSome = decide (n ∈ e :: r)
    by_cases c : e = n
    · rw [valV_pos (by show (Sum.inr e : Key) = Sum.inr n; rw [c]), c]; simp
    · rw [valV_neg (fun z => c (Sum.inr.inj z)), ih]
      have : ¬ n = e := fun z => c z.symm
      simp [this]
theorem seen_put {S : List Str} {n : Str} (h : n ∉ S) : putK (seenV S) (Sum.inr n) (V.bl true) = seenV (S ++ [n]) := by
  have e : valV (seenV S) (Sum.inr n) = none := by
    have := seen_has S n
    rw [decide_eq_false h] at this
    exact Option.isNone_iff_eq_none.mp (by cases q : valV (seenV S) (Sum.inr n) with
      | none => rfl
      | some v => rw [q] at this; cases this)
  rw [putK_new _ e]; unfold seenV; rw [List.map_append]; rfl
theorem seen_put_in {S : List Str} {n : Str} (h : n ∈ S) : putK (seenV S) (Sum.inr n) (V.bl true) = seenV S := by
  unfold putK
  have e : (seenV S).any (fun kv => decide (kv.1 = Sum.inr n)) = true := by
    refine List.any_eq_true.mpr ⟨(Sum.inr n, V.bl true), List.mem_map.mpr ⟨n, h, rfl⟩, ?_⟩
    exact decide_eq_true rfl
  rw [if_pos e]
  unfold seenV
  rw [List.map_map]
  refine List.map_congr_left fun z _ => ?_
  show (if (Sum.inr z : Key) = Sum.inr n then ((Sum.inr z : Key), V.bl true) else (Sum.inr z, V.bl true)) = _
  split <;> rfl
theorem seen_len (S : List Str) : (seenV S).length = S.length := by unfold seenV; exact List.length_map ..
theorem le_line2 {n : Nat} (h : n ≤ 1000000) : n ≤ sizeLine := Nat.le_trans h (by decide)
theorem nd_sub_len : ∀ {S T : List Str}, S.Nodup → (∀ z ∈ S, z ∈ T) → S.length ≤ T.length
  | [], _, _, _ => Nat.zero_le _
  | a :: S, T, nd, h => by
    obtain ⟨n1, n2⟩ := List.nodup_cons.mp nd
    have ha := h a List.mem_cons_self
    have := nd_sub_len (S := S) (T := T.erase a) n2 fun z hz => (List.mem_erase_of_ne (fun e => n1 (by rw [← e]; exact hz))).mpr (h z (List.mem_cons_of_mem _ hz))
    rw [List.length_erase_of_mem ha] at this
    have := List.length_pos_of_mem ha
    rw [List.length_cons]
    omega
/-! ### how much is left -/
def left (L : Cont) (S : List Str) : Nat := ((L.filter fun e => decide (e.1 ∉ S)).map fun e => e.2.names.length).sum
theorem left_le (L : Cont) (S : List Str) (z : Str) : left L (S ++ [z]) ≤ left L S := by
  unfold left
  induction L with
  | nil => exact Nat.le_refl _
  | cons e r ih =>
    rw [List.filter_cons, List.filter_cons]
    by_cases c : e.1 ∈ S
    · have c2 : e.1 ∈ S ++ [z] := List.mem_append_left _ c
      simp only [c, c2, not_true_eq_false, decide_false, Bool.false_eq_true, if_false]; exact ih
    · simp only [c, not_false_eq_true, decide_true, if_true, List.map_cons, List.sum_cons]
      split
      · rw [List.map_cons, List.sum_cons]; omega
      · omega
theorem left_take {L : Cont} {S : List Str} {z : Str} {t : Thing} (h : (z, t) ∈ L) (hs : z ∉ S) : left L (S ++ [z]) + t.names.length ≤ left L S := by
  unfold left
  induction L with
  | nil => cases h
  | cons e r ih =>
    have le := left_le r S z
    unfold left at le
    rw [List.filter_cons, List.filter_cons]
    rcases List.mem_cons.mp h with q | q
    · rw [← q]
      have c2 : z ∈ S ++ [z] := List.mem_append_right _ (List.mem_singleton.mpr rfl)
      simp only [hs, c2, not_true_eq_false, not_false_eq_true, decide_false, decide_true, Bool.false_eq_true, if_false, if_true, List.map_cons, List.sum_cons]
      omega
    · have ih := ih q
      by_cases c : e.1 ∈ S
      · have c2 : e.1 ∈ S ++ [z] := List.mem_append_left _ c
        simp only [c, c2, not_true_eq_false, decide_false, Bool.false_eq_true, if_false]; exact ih
      · simp only [c, not_false_eq_true, decide_true, if_true, List.map_cons, List.sum_cons]
        split
        · rw [List.map_cons, List.sum_cons]; omega
        · omega
theorem left_bound {L : Cont} (o : StOk L) : left L [] ≤ 100000 := by
  have h : ∀ M : Cont, (∀ e ∈ M, ThOk e.2) → ((M.filter fun e => decide (e.1 ∉ ([] : List Str))).map fun e => e.2.names.length).sum ≤ M.length * 100 := by
    intro M
    induction M with
    | nil => intro _; exact Nat.zero_le _
    | cons e r ih =>
      intro hm
      have := ih fun e he => hm e (List.mem_cons_of_mem _ he)
      have l := names_len (hm e List.mem_cons_self)
      rw [List.filter_cons, if_pos (by simp), List.map_cons, List.sum_cons, List.length_cons]
      omega
  have := h L o.th
  have := o.sz
  unfold left
  omega
theorem hasV_str {ns : List Str} {z : Str} (h : z ∈ ns) : hasV ns (.str z) = true := decide_eq_true h
section
variable {P : Program} {w : World} {K : PySem.W.Frag} {mg : Str → Option Value} {base : Heap}
/-! ### reached -/
def spReached (P : Program) (w : World) (K : PySem.W.Frag) (n : Nat) (b : Bool) : Sp := fun vs H Q E => ∃ (p r : Addr) (L : Cont) (vr : List V), vs = [.ref p, .ref r] ∧ StB P w (He.ga K "Pack") (He.ga K "Shelf") n b H p L ∧ H r = some (.lst vr) ∧ (∀ v ∈ vr, VOk H v) ∧ vr.length ≤ 2000 ∧
  ((∃ roots : List Str, vr = roots.map V.str ∧ (∀ z ∈ roots, z ∈ nms L) ∧ ∀ l H', H l = none → Same H H' → H' l = some (.lst ((nms (sub L roots)).map V.str)) → Q (.ref l) H') ∨
    ((∃ v ∈ vr, hasV (nms L) v = false) ∧ ∀ H', Same H H' → E (.ref (He.ga K "NoName")) none H'))
theorem sc_reached : FnScope ["store", "roots", "seen", "waiting", "root", "name"] ["store", "roots"] (defScope s_reached) := ⟨rfl, rfl, rfl, by decide +kernel, rfl, by decide +kernel, by decide +kernel⟩
theorem ok_reached (T : Tx K mg) (n k : Nat) (b : Bool) (hk : 2 ≤ k) (W : Api P w K mg base n k b) : Gf P w K mg base (L2.CX P w) (k + 1) (He.ga K "reached") ["store", "roots"] (spReached P w K n b) := by
  have G_names_in : Gf P w K mg base CX0 1 _ _ spNamesIn := ok_names_in T
  refine gf_of T.d_reached sc_reached (fun _ _ _ _ _ _ us hl => match us, hl with | [_, _], _ => rfl) (fun vs H Q E h => ?_) (fun cdv A outer s H vs Q E hr h => ?_)
  · obtain ⟨p, r, L, vr, rfl, _⟩ := h; rfl
  · obtain ⟨p, r, L, vr, rfl, sb, h1, vo, ln, k⟩ := h
    have ok := sb.ok
    refine ⟨_, pss_cons (ps_set (i := 2) sc_reached.nd rfl (Or.inr rfl) pe_dnewK)
      (pss_cons (ps_set (i := 3) sc_reached.nd rfl (Or.inl rfl) (pe_callTy (r := rListK K) call_list_of rfl T.n_list (by decide +kernel) (pa_cons (pv 1) pa_nil)))
      (pss_cons (ps_for (passes_of rfl) rfl (pi_list (pv 1)) (pg_name (i := 4) sc_reached.nd rfl (Or.inl rfl))
        (pss_one (ps_if (pt_not (pt_val (pe_mt W.cl W.m_has W.G_has (hr.mono (by omega)) pass0 (pv 0) (pa_cons (pv 4) pa_nil))))
          (pss_one (ps_raise rfl (takes_of rfl rfl rfl rfl) (pmk_own PySem.F.excBase_ValueError T.xN.1 T.g_NoName T.xN.2.1 (raises_own T.xN.2.2.1 T.xN.2.2.2) rfl)))
          (pss_nil))))
      (pss_cons (ps_while (passes_of rfl) (pt_cmpR op_gt (pe_callB (r := rLen K) call_len rfl T.n_len (by decide +kernel) (pa_cons (pv 3) pa_nil)) pe_int (nomark _))
        (pss_cons (ps_set (i := 5) sc_reached.nd rfl (Or.inl rfl) (pe_bm0 PySem.F.plainAttrs_list PySem.F.slot_list_pop PySem.F.type_list_pop mt_pop (pv 3)))
        (pss_one (ps_if (pt_cmp (pc_dnotin (hu_of hr) (pv 5) (pv 2)) (by rfl))
          (pss_cons (ps_dput (hu_of hr) (pv 2) (pv 5) pe_bl rfl)
          (pss_one (ps_set (i := 3) sc_reached.nd rfl (Or.inl rfl) (pe_op op_cat (pv 3) (pe_fn G_names_in (hr.mono (by omega)) T.g_names_in pass0 (pa_cons (pe_mt W.cl W.m_thing W.G_thing (hr.mono (by omega)) passL (pv 0) (pa_cons (pv 5) pa_nil)) pa_nil))))))
          (pss_nil)))))
      (pss_one (ps_ret (pe_lc (own := [("name", 5)]) (g := gName 5) rfl sc_reached.nd (pi_list (pe_mt0 W.cl W.m_names W.G_names (hr.mono (by omega)) pass0 (pv 0))) (blkOk_by (own := [("name", 5)]) (N := ["store", "roots", "seen", "waiting", "root", "name"]) (sc := defScope s_reached) (by decide +kernel)) (fun _ _ _ _ _ => pg_name (i := 5) sc_reached.nd rfl (Or.inl rfl)) (fun _ _ _ _ _ => pts_one (pt_cmp (pc_din (hu_of hr) (pv 5) (pv 2)) (by rfl))) (fun _ _ _ _ _ => (pv 5)))))))), ?_⟩
    refine fun d hd => ?_
    have s0 := same_new (o := .dK []) hd
    refine ⟨_, rfl, r, vr, rfl, .inl (SqL.of (s0 _ _ h1)), fun l hl => ?_⟩
    have s1 := Same.new (o := .lst vr) s0 hl
    have nld : l ≠ d := fun z => by rw [z, upd_same] at hl; cases hl
    have hl0 : H l = none := L2.Same.free s0 hl
    have hd1 : upd (upd H d (.dK [])) l (.lst vr) d = some (.dK (seenV [])) := by rw [upd_ne (Ne.symm nld), upd_same]; rfl
    have hl1 : upd (upd H d (.dK [])) l (.lst vr) l = some (.lst vr) := upd_same
    obtain ⟨H1, eH1⟩ : ∃ H1, H1 = upd (upd H d (.dK [])) l (.lst vr) := ⟨_, rfl⟩
    rw [← eH1] at s1 hd1 hl1 ⊢
    obtain ⟨dx, fs, i1, i2, i3, i4⟩ := st_ins sb
    refine ⟨_, rfl, r, rfl, ⟨_, SqL.of (s1 _ _ h1)⟩, for_it walk_list (fun i σ H' => ∃ v4 v5, σ = [some (.ref p), some (.ref r), some (.ref d), some (.ref l), v4, v5] ∧ H' = H1 ∧ ∀ j v, j < i → vr[j]? = some v → hasV (nms L) v = true)
      ⟨none, none, rfl, rfl, fun j v hj _ => by omega⟩ (fun _ _ _ _ ⟨_, _, _, e, _⟩ => by rw [e]; exact SqL.of (s1 _ _ h1)) ?_ ?_⟩
    · rintro i x σ H2 H3 hi ⟨v4, v5, rfl, rfl, ha⟩ ⟨rfl, hx⟩
      have xm : x ∈ vr := List.mem_of_getElem? hx
      refine ⟨_, rfl, p, dx, fs, rfl, s1 _ _ i1, i2, _, rfl, p, x, L, rfl, sb.mono s1, vok_same s1 (vo x xm), _, rfl, ?_⟩
      cases c : hasV (nms L) x with
      | true =>
        refine ⟨_, _, rfl, rfl, fun j v hj hv => ?_⟩
        by_cases e : j = i
        · rw [e, hx] at hv; cases hv; exact c
        · exact ha j v (by omega) hv
      | false =>
        rcases k with ⟨roots, rfl, hin, k⟩ | ⟨_, k⟩
        · obtain ⟨z, hz, rfl⟩ := List.mem_map.mp xm
          rw [hasV_str (hin z hz)] at c; cases c
        · exact k _ s1
    · rintro σ H2 ⟨v4, v5, rfl, rfl, ha⟩
      rcases k with ⟨roots, rfl, hin, k⟩ | ⟨⟨v, hv, hv2⟩, _⟩
      rotate_left
      · exfalso
        obtain ⟨j, hj⟩ := List.mem_iff_getElem?.mp hv
        have := ha j v (List.getElem?_eq_some_iff.mp hj).1 hj
        rw [hv2] at this; cases this
      · have lb := left_bound ok
        have lnr : roots.length ≤ 2000 := by rw [List.length_map] at ln; exact ln
        refine ⟨fun m σ H' => ∃ (l : Addr) (S Wt : List Str) (v4 v5 : Option V), σ = [some (.ref p), some (.ref r), some (.ref d), some (.ref l), v4, v5] ∧ Same H H' ∧ H' d = some (.dK (seenV S)) ∧ H' l = some (.lst (Wt.map V.str)) ∧ H l = none ∧
          (∀ z ∈ S, Reach L roots z) ∧ (∀ z ∈ Wt, Reach L roots z) ∧ (∀ z ∈ roots, z ∈ S ∨ z ∈ Wt) ∧ (∀ z t c, z ∈ S → (z, t) ∈ L → c ∈ t.names → c ∈ S ∨ c ∈ Wt) ∧ S.Nodup ∧ (∀ z ∈ S, z ∈ nms L) ∧ m = Wt.length + left L S ∧ m ≤ 102000,
          ⟨_, l, [], roots, v4, v5, rfl, s1, hd1, hl1, hl0, fun z hz => (nomatch hz), fun z hz => .root hz, fun z hz => .inr hz, fun z t c hz => (nomatch hz), List.nodup_nil, fun z hz => (nomatch hz), rfl, by omega⟩, ?_⟩
        rintro m σ H2 ⟨l, S, Wt, v4, v5, rfl, hs, hd, hl, hl0, r1, r2, c1, c2, nd, si, rfl, hm⟩
        refine ⟨_, rfl, _, _, rfl, .inl ⟨_, SqL.of hl, rfl⟩, _, _, rfl, rfl, _, rfl, ?_⟩
        have nlist : ∀ {a : Addr} {kvs : List (Key × V)} {xs : List V}, H2 a = some (.dK kvs) → H2 l = some (.lst xs) → a ≠ l := fun ha hb z => by rw [z, hb] at ha; cases ha
        have ndl : d ≠ l := nlist hd hl
        by_cases cw : 0 < Wt.length
        · refine itep (decide_eq_true (show ((0 : Nat) : Int) < (((Wt.map V.str).length : Nat) : Int) by rw [List.length_map]; omega)) ?_
          obtain ⟨W0, z, rfl⟩ : ∃ W0 z, Wt = W0 ++ [z] := by
            rcases List.eq_nil_or_concat Wt with e | ⟨W0, z, e⟩
            · rw [e] at cw; cases cw
            · exact ⟨W0, z, by rw [e, List.concat_eq_append]⟩
          refine ⟨fun σ' H' => ∃ m', m' < (W0 ++ [z]).length + left L S ∧ ∃ (l : Addr) (S Wt : List Str) (v4 v5 : Option V), σ' = [some (.ref p), some (.ref r), some (.ref d), some (.ref l), v4, v5] ∧ Same H H' ∧ H' d = some (.dK (seenV S)) ∧ H' l = some (.lst (Wt.map V.str)) ∧ H l = none ∧
            (∀ z ∈ S, Reach L roots z) ∧ (∀ z ∈ Wt, Reach L roots z) ∧ (∀ z ∈ roots, z ∈ S ∨ z ∈ Wt) ∧ (∀ z t c, z ∈ S → (z, t) ∈ L → c ∈ t.names → c ∈ S ∨ c ∈ Wt) ∧ S.Nodup ∧ (∀ z ∈ S, z ∈ nms L) ∧ m' = Wt.length + left L S ∧ m' ≤ 102000, fun _ _ h => h, ?_⟩
          have hzr : Reach L roots z := r2 z (List.mem_append_right _ (List.mem_singleton.mpr rfl))
          have hzin : z ∈ nms L := reach_in ok.kb hin hzr
          have gl : ((W0 ++ [z]).map V.str)[((W0 ++ [z]).map V.str).length - 1]? = some (V.str z) := by
            rw [List.map_append, List.length_append]
            show (W0.map V.str ++ [V.str z])[(W0.map V.str).length + 1 - 1]? = _
            simp
          have dl : ((W0 ++ [z]).map V.str).dropLast = W0.map V.str := by
            rw [List.map_append]
            show (W0.map V.str ++ [V.str z]).dropLast = _
            exact List.dropLast_concat
          refine ⟨_, rfl, .inl ⟨rfl, _, SqL.of hl⟩, l, _, _, rfl, rfl, hl, gl, ?_⟩
          rw [dl]
          obtain ⟨H3, eH3⟩ : ∃ H3, H3 = upd H2 l (.lst (W0.map V.str)) := ⟨_, rfl⟩
          have s3 : Same H H3 := by rw [eH3]; exact Same.mut hs hl0
          have hd3 : H3 d = some (.dK (seenV S)) := by rw [eH3, upd_ne ndl]; exact hd
          have hl3 : H3 l = some (.lst (W0.map V.str)) := by rw [eH3]; exact upd_same
          rw [← eH3]
          refine ⟨_, rfl, _, rfl, d, _, rfl, DGet.k (k := Sum.inr z) hd3, _, rfl, ?_⟩
          rw [seen_has]
          by_cases cz : z ∈ S
          · refine iten (by simp [cz]) ?_
            refine ⟨_, ?_, l, S, W0, v4, _, rfl, s3, hd3, hl3, hl0, r1, fun y hy => r2 y (List.mem_append_left _ hy), fun y hy => ?_, fun y t c hy hyt hc => ?_, nd, si, rfl, ?_⟩
            · rw [List.length_append]; simp
            · rcases c1 y hy with q | q
              · exact .inl q
              · rcases List.mem_append.mp q with q | q
                · exact .inr q
                · rw [List.mem_singleton.mp q]; exact .inl cz
            · rcases c2 y t c hy hyt hc with q | q
              · exact .inl q
              · rcases List.mem_append.mp q with q | q
                · exact .inr q
                · rw [List.mem_singleton.mp q]; exact .inl cz
            · rw [List.length_append] at hm; simp at hm; omega
          · refine itep (by simp [cz]) ?_
            have sl : S.length ≤ 1000 := by
              have : S.length ≤ (nms L).length := nd_sub_len nd si
              unfold nms at this
              rw [List.length_map] at this
              have := ok.sz
              omega
            refine ⟨_, rfl, _, rfl, d, _, rfl, DPut.k (k := Sum.inr z) hd3 (by rw [seen_len]; exact lt_line (by omega)), ?_⟩
            rw [seen_put cz]
            obtain ⟨H4, eH4⟩ : ∃ H4, H4 = upd H3 d (.dK (seenV (S ++ [z]))) := ⟨_, rfl⟩
            have s4 : Same H H4 := by rw [eH4]; exact Same.mut s3 (L2.Same.free (Same.refl H) (by
              cases q : H d with
              | none => rfl
              | some o => have := s0; exact absurd q (by rw [‹H d = none›]; exact fun z => nomatch z)))
            have hd4 : H4 d = some (.dK (seenV (S ++ [z]))) := by rw [eH4]; exact upd_same
            have hl4 : H4 l = some (.lst (W0.map V.str)) := by rw [eH4, upd_ne (Ne.symm ndl)]; exact hl3
            obtain ⟨t, ht⟩ := mem_nms hzin
            rw [← eH4]
            refine ⟨_, rfl, _, rfl, p, dx, fs, rfl, s4 _ _ i1, i3, _, rfl, p, _, L, rfl, sb.mono s4, trivial, .inl ⟨z, t, ht, rfl, fun a H5 s5 hta => ?_⟩⟩
            refine ⟨a, t, rfl, hta, ok.th _ ht, fun q H6 hq s6 hq6 => ?_⟩
            have lk := left_take ht cz
            have nl := names_len (ok.th _ ht)
            rw [List.length_append] at hm
            simp only [List.length_singleton] at hm
            refine ⟨l, q, _, _, rfl, rfl, s6 _ _ (s5 _ _ hl4), hq6, le_line2 (by rw [List.length_map, List.length_map]; omega), fun u hu => ?_⟩
            have s56 := Same.trans s5 s6
            refine ⟨_, ?_, u, S ++ [z], W0 ++ t.names, v4, _, rfl, Same.new (Same.trans s4 s56) hu, ?_, ?_, L2.Same.free (Same.trans s4 s56) hu, fun y hy => ?_, fun y hy => ?_, fun y hy => ?_, fun y t' c hy hyt hc => ?_, ?_, fun y hy => ?_, rfl, ?_⟩
            · rw [List.length_append, List.length_append]; simp only [List.length_singleton]; omega
            · exact same_new hu _ _ (s56 _ _ hd4)
            · rw [upd_same, List.map_append]
            · rcases List.mem_append.mp hy with q | q
              · exact r1 y q
              · rw [List.mem_singleton.mp q]; exact hzr
            · rcases List.mem_append.mp hy with q | q
              · exact r2 y (List.mem_append_left _ q)
              · exact .kid hzr ht q
            · rcases c1 y hy with q | q
              · exact .inl (List.mem_append_left _ q)
              · rcases List.mem_append.mp q with q | q
                · exact .inr (List.mem_append_left _ q)
                · exact .inl (List.mem_append_right _ q)
            · rcases List.mem_append.mp hy with q | q
              · rcases c2 y t' c q hyt hc with q | q
                · exact .inl (List.mem_append_left _ q)
                · rcases List.mem_append.mp q with q | q
                  · exact .inr (List.mem_append_left _ q)
                  · exact .inl (List.mem_append_right _ q)
              · rw [List.mem_singleton.mp q] at hyt
                have e := thing_uniq ok.nd hyt ht
                rw [e] at hc
                exact .inr (List.mem_append_right _ hc)
            · exact List.nodup_append.mpr ⟨nd, List.nodup_cons.mpr ⟨fun h => (nomatch h), List.nodup_nil⟩, fun x hx y hy e => cz (by rw [List.mem_singleton.mp hy] at e; rw [← e]; exact hx)⟩
            · rcases List.mem_append.mp hy with q | q
              · exact si y q
              · rw [List.mem_singleton.mp q]; exact hzin
            · rw [List.length_append]; omega
        · refine iten (fun h => cw (by have h2 := of_decide_eq_true h; rw [List.length_map] at h2; exact Int.natCast_pos.mp h2)) ?_
          have e0 : Wt = [] := List.length_eq_zero_iff.mp (by omega)
          subst e0
          have full : ∀ z, Reach L roots z → z ∈ S := by
            intro z hz
            induction hz with
            | root h =>
              rcases c1 _ h with q | q
              · exact q
              · cases q
            | kid h m hc ih =>
              rcases c2 _ _ _ ih m hc with q | q
              · exact q
              · cases q
          have same_names : (nms L).filter (fun z => decide (z ∈ S)) = nms (sub L roots) := nms_sub L roots _ fun n _ => by
            rw [decide_eq_true_eq]
            exact ⟨r1 n, full n⟩
          refine ⟨_, rfl, p, dx, fs, rfl, hs _ _ i1, i4, p, L, rfl, sb.mono hs, fun q H3 hq s3 hq3 => ?_⟩
          have s13 := Same.trans hs s3
          have lenL : (nms L).length ≤ 1000 := by unfold nms; rw [List.length_map]; exact ok.sz
          refine ⟨q, rfl, ⟨_, SqL.of hq3⟩, fun D hD => lc_it walk_list (fun i H' => Same H3 H' ∧ H' D = some (.lst ((((nms L).take i).filter (fun z => decide (z ∈ S))).map V.str))) ⟨same_new hD, upd_same⟩ (fun _ _ _ e => SqL.of (e.1 _ _ hq3)) ?_ ?_⟩
          · rintro i x H4 H5 hi ⟨h4, hd4⟩ ⟨rfl, hx⟩
            obtain ⟨z, hz, rfl⟩ := map_get hx
            refine ⟨rfl, _, rfl, _, rfl, d, _, rfl, DGet.k (k := Sum.inr z) (h4 _ _ (s3 _ _ hd)), _, rfl, ?_⟩
            rw [seen_has]
            rw [take_snoc hz, List.filter_append]
            have ii := (List.getElem?_eq_some_iff.mp hz).1
            by_cases c : z ∈ S
            · refine itep (decide_eq_true c) ?_
              refine ⟨_, rfl, _, hd4, ?_, Same.mut h4 hD, ?_⟩
              · rw [List.length_map]
                refine lt_line (Nat.lt_of_le_of_lt (List.length_filter_le _ _) ?_)
                rw [List.length_take]; omega
              · rw [upd_same, List.map_append, List.filter_cons, if_pos (decide_eq_true c)]; rfl
            · refine iten (by simp [c]) ?_
              refine ⟨h4, ?_⟩
              rw [hd4, List.filter_cons, if_neg (by simp [c])]; simp
          · rintro H4 ⟨h4, hd4⟩
            rw [List.length_map, List.take_length, same_names] at hd4
            exact k D H4 (L2.Same.free s13 hD) (Same.trans s13 h4) hd4
end
end An

namespace An
open PySem PySem.Spec L2
theorem nodk {H : Hp} {d b : Addr} {kvs : List (Key × V)} {o u : HO} (h : H d = some (.dK kvs)) (e : H b = some o) (n : ∀ k, o ≠ .dK k) : upd H d u b = some o := by
  rw [upd_ne (ne_of e h (n _))]; exact e
theorem ViaAt.dk {H : Hp} {d : Addr} {kvs : List (Key × V)} {u : HO} (h : H d = some (.dK kvs)) {own : Own} {L : List (Str × Str × List Span)} (k : ViaAt H own L) : ViaAt (upd H d u) own L :=
  Paired.mapP k fun _ _ ⟨e, r, as, h1, h2, h3⟩ => ⟨e, r, as, nodk h h1 (fun _ z => nomatch z), nodk h h2 (fun _ z => nomatch z), h3.mono (tups_dk h)⟩
theorem whole_snoc {ps : List PEnt} {e : PEnt} (h : e.via = none) : wholesOf (ps ++ [e]) = wholesOf ps ++ [(e.name, e.thing)] := by
  unfold wholesOf
  rw [List.filter_append, List.map_append]
  have : whole e = true := by unfold whole; rw [h]; rfl
  rw [List.filter_cons, if_pos this]; rfl
theorem whole_snoc' {ps : List PEnt} {e : PEnt} {v : Str × List Span} (h : e.via = some v) : wholesOf (ps ++ [e]) = wholesOf ps := by
  unfold wholesOf
  rw [List.filter_append]
  have : ¬ whole e = true := by unfold whole; rw [h]; exact fun z => nomatch z
  rw [List.filter_cons, if_neg this]
  simp
theorem via_snoc {ps : List PEnt} {e : PEnt} (h : e.via = none) : viasOf (ps ++ [e]) = viasOf ps := by
  unfold viasOf; rw [List.filterMap_append, List.filterMap_cons, h]; simp
theorem via_snoc' {ps : List PEnt} {e : PEnt} {v : Str × List Span} (h : e.via = some v) : viasOf (ps ++ [e]) = viasOf ps ++ [(e.name, v.1, v.2)] := by
  unfold viasOf; rw [List.filterMap_append, List.filterMap_cons, h]; rfl
theorem paired_le {α : Type} {F : Str × Addr → α → Prop} {own : Own} {l : List α} (h : Paired F own l) {n : Nat} (k : l.length ≤ n) : (ownV own).length ≤ n := by
  rw [ownV_len, Paired.length h]; exact k
theorem wholes_len (ps : List PEnt) : (wholesOf ps).length ≤ ps.length := by unfold wholesOf; rw [List.length_map]; exact List.length_filter_le _ _
theorem vias_len (ps : List PEnt) : (viasOf ps).length ≤ ps.length := List.length_filterMap_le _ _
section
variable {CP : Addr} {h : Hp} {p wd sd a u r : Addr} {ord : List Str} {ps : List PEnt} {e : PEnt} {as : List Addr}
theorem PkMid.putW (M : PkMid CP h p wd sd ord ps) (ta : ThAt h a e.thing) (ev : e.via = none) (hn : e.name ∉ ps.map (·.name)) (hl : ps.length ≤ 1000) :
    ∃ kvs, h wd = some (.dK kvs) ∧ kvs.length < sizeLine ∧ PkMid CP (upd h wd (.dK (putK kvs (Sum.inr e.name) (.ref a)))) p wd sd ord (ps ++ [e]) := by
  obtain ⟨⟨dx, o, ws, ss, h1, h2, h3, h4, h5, h6⟩, ne⟩ := M
  obtain ⟨q1, q2⟩ := pk_none h4 h6 hn
  refine ⟨_, h3, lt_line (Nat.lt_of_le_of_lt (paired_le h4 (wholes_len ps)) (by omega)), ⟨dx, o, ws ++ [(e.name, a)], ss, nodk h3 h1 (fun _ z => nomatch z), nodk h3 h2 (fun _ z => nomatch z), ?_, ?_, ?_, ?_⟩, ne⟩
  · rw [upd_same, ownV_put q1]
  · rw [whole_snoc ev]
    exact paired_snoc (OwnAt.mono (tups_dk h3) h4) ⟨rfl, ta.mono (tups_dk h3)⟩
  · rw [upd_ne (Ne.symm ne)]; exact h5
  · rw [via_snoc ev]; exact h6.dk h3
theorem PkMid.putS {b : Str} {sp : List Span} (M : PkMid CP h p wd sd ord ps) (ev : e.via = some (b, sp)) (hu : h u = some (.tup [.str b, .ref r])) (hr : h r = some (.lst (as.map V.ref))) (hs : SpansAt h as sp) (hn : e.name ∉ ps.map (·.name)) (hl : ps.length ≤ 1000) :
    ∃ kvs, h sd = some (.dK kvs) ∧ kvs.length < sizeLine ∧ PkMid CP (upd h sd (.dK (putK kvs (Sum.inr e.name) (.ref u)))) p wd sd ord (ps ++ [e]) := by
  obtain ⟨⟨dx, o, ws, ss, h1, h2, h3, h4, h5, h6⟩, ne⟩ := M
  obtain ⟨q1, q2⟩ := pk_none h4 h6 hn
  refine ⟨_, h5, lt_line (Nat.lt_of_le_of_lt (paired_le h6 (vias_len ps)) (by omega)), ⟨dx, o, ws, ss ++ [(e.name, u)], nodk h5 h1 (fun _ z => nomatch z), nodk h5 h2 (fun _ z => nomatch z), ?_, ?_, ?_, ?_⟩, ne⟩
  · rw [upd_ne ne]; exact h3
  · rw [whole_snoc' ev]; exact OwnAt.mono (tups_dk h5) h4
  · rw [upd_same, ownV_put q2]
  · rw [via_snoc' ev]
    exact paired_snoc (h6.dk h5) ⟨rfl, r, as, nodk h5 hu (fun _ z => nomatch z), nodk h5 hr (fun _ z => nomatch z), hs.mono (tups_dk h5)⟩
end
open Classical in
/-- a heap without some things -/
noncomputable def delP (H : Hp) (S : Addr → Prop) : Hp := fun b => if S b then none else H b
theorem delP_ne {H : Hp} {S : Addr → Prop} {b : Addr} (h : ¬ S b) : delP H S b = H b := if_neg h
theorem delP_same {H : Hp} {S : Addr → Prop} : Same (delP H S) H := fun b o e => by
  unfold delP at e
  split at e
  · cases e
  · exact e
theorem delP_mono {H H' : Hp} {S : Addr → Prop} (s : Same H H') : Same (delP H S) (delP H' S) := fun b o e => by
  unfold delP at e ⊢
  split at e
  · cases e
  · rename_i n
    rw [if_neg n]; exact s _ _ e
theorem delP_sub {H : Hp} {S S' : Addr → Prop} (s : ∀ c, S' c → S c) : Same (delP H S) (delP H S') := fun b o e => by
  unfold delP at e ⊢
  split at e
  · cases e
  · rename_i n
    rw [if_neg (fun z => n (s _ z))]; exact e
theorem delP_upd {H : Hp} {S : Addr → Prop} {b : Addr} {o : HO} (h : ¬ S b) : upd (delP H S) b o = delP (upd H b o) S := by
  funext x
  by_cases q : x = b
  · rw [q, upd_same, delP_ne h, upd_same]
  · rw [upd_ne q]
    by_cases r : S x
    · unfold delP; rw [if_pos r, if_pos r]
    · rw [delP_ne r, delP_ne r, upd_ne q]
theorem delP_upd_self {H : Hp} {S : Addr → Prop} {c : Addr} {o : HO} (h : S c) : delP (upd H c o) S = delP H S := by
  funext x
  by_cases r : S x
  · unfold delP; rw [if_pos r, if_pos r]
  · rw [delP_ne r, delP_ne r, upd_ne (fun z => r (by rw [z]; exact h))]
theorem tups_delP {H : Hp} {S : Addr → Prop} (h : ∀ c, S c → ∃ xs, H c = some (.lst xs)) : Tups H (delP H S) := fun b ys e => by
  rw [delP_ne (fun z => by obtain ⟨xs, q⟩ := h b z; rw [e] at q; cases q)]; exact e
def del (H : Hp) (c : Addr) : Hp := fun b => if b = c then none else H b
theorem del_ne {H : Hp} {b c : Addr} (h : b ≠ c) : del H c b = H b := if_neg h
theorem del_same {H : Hp} {c : Addr} : Same (del H c) H := fun b o e => by
  unfold del at e
  split at e
  · cases e
  · exact e
theorem steps_le {ps : List PEnt} (pl : PkPlan ps) {e : PEnt} (he : e ∈ ps) : e.steps ≤ 4 := by
  obtain ⟨pre, post, ep⟩ := List.append_of_mem he
  have y := pl.ok pre e post ep
  unfold EntOk at y
  cases c : e.via with
  | none => rw [c] at y; have y' : e.steps = 0 := y; omega
  | some bs => rw [c] at y; obtain ⟨_, _, _, _, _, _, y, _⟩ := y; exact y
/-- the leaves so far, as the list tells them -/
def LvAt (H : Hp) : List Addr → List PEnt → Prop := Paired fun a e => ∃ q, H a = some (.tup [.str e.name, .ref q]) ∧ LsAt H q e.thing.lines
theorem LvAt.mono {H H' : Hp} (s : Tups H H') {as : List Addr} {ps : List PEnt} (h : LvAt H as ps) : LvAt H' as ps := Paired.mapP h fun _ _ ⟨q, e1, e2⟩ => ⟨q, s _ _ e1, s _ _ e2⟩
/-- the best so far -/
def BAt (H : Hp) (as : List Addr) : Option (PEnt × List Span) → Option V → Prop
  | none, v => v = some .non ∧ as = []
  | some (b, sp), v => v = some (.str b.name) ∧ SpansAt H as sp ∧ sp.length ≤ 5000 ∧ ∀ s ∈ sp, s.2.2.length ≤ 5000
theorem BAt.mono {H H' : Hp} (s : Tups H H') {as : List Addr} {acc : Option (PEnt × List Span)} {v : Option V} (h : BAt H as acc v) : BAt H' as acc v := by
  cases acc with
  | none => exact h
  | some x => obtain ⟨b, sp⟩ := x; obtain ⟨h1, h2, h3⟩ := h; exact ⟨h1, h2.mono s, h3⟩
theorem lines_le {t : Thing} (h : ThOk t) : t.lines.length ≤ 1000 := by
  cases t with
  | leaf ls => exact h.2
  | tree rs => exact Nat.zero_le _
  | note x y z => exact Nat.zero_le _
section
variable {P : Program} {w : World} {K : PySem.W.Frag} {mg : Str → Option Value} {base : Heap}
/-! ### Pack.keep_leaf -/
def spKeep (K : PySem.W.Frag) : Sp := fun vs H Q _ => ∃ (p wd sd a lv : Addr) (as : List Addr) (ord : List Str) (ps : List PEnt) (n : Str) (new : List Str) (S : Addr → Prop), vs = [.ref p, .str n, .ref a, .ref lv] ∧ (∀ c, S c → ∃ xs, H c = some (.lst xs)) ∧
  PkMid (He.ga K "Pack") (delP H S) p wd sd ord ps ∧ PkPlan ps ∧ ThAt H a (.leaf new) ∧ ThOk (.leaf new) ∧ H lv = some (.lst (as.map V.ref)) ∧ LvAt H as (lvs ps) ∧ n ∉ ps.map (·.name) ∧ ps.length ≤ 1000 ∧
  ∀ H', But (fun c => c = wd ∨ c = sd) H H' → PkMid (He.ga K "Pack") (delP H' S) p wd sd ord (ps ++ [planLeaf ps n new]) → Q .non H'
theorem sc_P_keep_leaf : FnScope ["self", "name", "thing", "leaves", "base", "least", "other", "lines", "rows"] ["self", "name", "thing", "leaves"] (defScope s_P_keep_leaf) := ⟨rfl, rfl, rfl, by decide +kernel, rfl, by decide +kernel, by decide +kernel⟩
theorem ok_P_keep_leaf (T : Tx K mg) : Gf P w K mg base CX0 8 (He.ma K (He.ga K "Pack") "keep_leaf") ["self", "name", "thing", "leaves"] (spKeep K) := by
  have GP_steps : Gf P w K mg base (L2.CX P w) 7 _ _ (spPSteps K 4) := ok_P_steps T 4
  have G_spans_of : Gf P w K mg base CX0 3 _ _ spSpans := ok_spans_of T
  have G_cost_of : Gf P w K mg base CX0 1 _ _ spCost := ok_cost_of T
  refine gf0_of T.d_P_keep_leaf sc_P_keep_leaf (fun _ _ _ _ _ _ us hl => match us, hl with | [_, _, _, _], _ => rfl) (fun vs H Q E h => ?_) (fun cdv A outer s H vs Q E hr h => ?_)
  · obtain ⟨p, wd, sd, a, lv, as, ord, ps, n, new, S, rfl, _⟩ := h; rfl
  · obtain ⟨p, wd, sd, a, lv, as, ord, ps, n, new, S, rfl, hS, MD, pl, ta, tok, hlv, LV, hn, hps, k⟩ := h
    have M := MD.mono (delP_same (S := S))
    have fr : ∀ {H1 : Hp} {x : Addr}, Same H H1 → H1 x = none → ¬ S x := fun s0 h0 z => by
      obtain ⟨xs, q⟩ := hS _ z
      have := s0 _ _ q
      rw [h0] at this; cases this
    have hS2 : ∀ {H1 : Hp}, Same H H1 → ∀ c, S c → ∃ xs, H1 c = some (.lst xs) := fun s0 c z => let ⟨xs, q⟩ := hS c z; ⟨xs, s0 _ _ q⟩
    refine ⟨_, pss_cons (ps_set (i := 4) sc_P_keep_leaf.nd rfl (Or.inl rfl) pe_non)
      (pss_cons (ps_set (i := 5) sc_P_keep_leaf.nd rfl (Or.inl rfl) (pe_lst pa_nil))
      (pss_cons (ps_for PassesOwn.never rfl (pi_list (pv 3)) (pg_tup rfl (pgs_cons (pg_name (i := 6) sc_P_keep_leaf.nd rfl (Or.inl rfl)) (pgs_cons (pg_name (i := 7) sc_P_keep_leaf.nd rfl (Or.inl rfl)) pgs_nil)))
        (pss_one (ps_if (pt_cmpR op_lt (pe_mt T.clP T.mP_steps GP_steps (hr.mono (by decide)) passL (pv 0) (pa_cons (pv 6) pa_nil)) (pe_gv T.i_MOST_STEPS) (nomark _))
          (pss_cons (ps_set (i := 8) sc_P_keep_leaf.nd rfl (Or.inl rfl) (pe_fn G_spans_of (hr.mono (by decide)) T.g_spans_of pass0 (pa_cons (pv 7) (pa_cons (pe_ix (r := rIxT K) ix_tup (pv 2) pe_int (fun _ _ => rfl)) pa_nil))))
          (pss_one (ps_if (PW.pt (pw_or (pt_cmp (pc_isN (pv 4))) (pw_or1 (pt_cmpR op_le (pe_fn G_cost_of (hr.mono (by decide)) T.g_cost_of pass0 (pa_cons (pv 8) pa_nil)) (pe_fn G_cost_of (hr.mono (by decide)) T.g_cost_of pass0 (pa_cons (pv 5) pa_nil)) (nomark _)))))
            (pss_cons (ps_set (i := 4) sc_P_keep_leaf.nd rfl (Or.inl rfl) (pv 6))
            (pss_one (ps_set (i := 5) sc_P_keep_leaf.nd rfl (Or.inl rfl) (pv 8))))
            (pss_nil))))
          (pss_nil))))
      (pss_one (ps_if (PW.pt (pw_and (pt_cmp (pc_notN (pv 4))) (pw_and1 (pt_cmpR op_lt (pe_fn G_cost_of (hr.mono (by decide)) T.g_cost_of pass0 (pa_cons (pv 5) pa_nil)) (pe_callB (r := rLen K) call_len rfl T.n_len (by decide +kernel) (pa_cons (pe_ix (r := rIxT K) ix_tup (pv 2) pe_int (fun _ _ => rfl)) pa_nil)) (nomark _)))))
        (pss_one (ps_dput (hu_of hr) (pe_fld (pv 0) rfl) (pv 1) (pe_tup (pa_cons (pv 4) (pa_cons (pv 5) pa_nil))) rfl))
        (pss_one (ps_dput (hu_of hr) (pe_fld (pv 0) rfl) (pv 1) (pv 2) rfl)))))), ?_⟩
    obtain ⟨qn, ta1, ta2⟩ := id ta
    refine ⟨Nat.zero_le _, fun l0 hl0 => ?_⟩
    have s0 := same_new (o := .lst []) hl0
    obtain ⟨dx, o, ws, ss, h1, h2, h3, h4, h5, h6⟩ := id M.ex
    refine ⟨_, rfl, lv, rfl, ⟨_, SqL.of (s0 _ _ hlv)⟩, for_it walk_list (fun i σ H' => ∃ (v4 : Option V) (lr : Addr) (v6 v7 v8 : Option V) (bs : List Addr), σ = [some (.ref p), some (.str n), some (.ref a), some (.ref lv), v4, some (.ref lr), v6, v7, v8] ∧ ¬ S lr ∧ Same H H' ∧ H' lr = some (.lst (bs.map V.ref)) ∧ BAt H' bs (((lvs ps).take i).foldl (better new) none) v4)
      ⟨_, l0, none, none, none, [], rfl, fr (Same.refl _) hl0, s0, upd_same, rfl, rfl⟩ (fun _ _ _ _ ⟨_, _, _, _, _, _, _, _, q, _⟩ => SqL.of (q _ _ hlv)) ?_ ?_⟩
    · rintro i x σ H1 H2 hi ⟨v4, lr, v6, v7, v8, bs, rfl, nlr, hs, hlr, hb⟩ ⟨rfl, hx⟩
      obtain ⟨c, hc, rfl⟩ := map_get hx
      obtain ⟨e, he, q, hq1, hq2⟩ := paired_get LV hc
      have hel : e ∈ lvs ps := List.mem_of_getElem? he
      obtain ⟨hep, hleaf⟩ := List.mem_filter.mp hel
      have eok := pl.th e hep
      have st4 := steps_le pl hep
      rw [take_snoc he, List.foldl_append]
      obtain ⟨acc, eacc⟩ : ∃ acc, acc = ((lvs ps).take i).foldl (better new) none := ⟨_, rfl⟩
      rw [← eacc] at hb ⊢
      refine ⟨c, _, rfl, SqT.of (hs _ _ hq1), rfl, _, _, rfl, _, _, rfl, rfl, ?_⟩
      refine ⟨_, rfl, p, dx, _, rfl, hs _ _ h1, pk_no, _, rfl, p, wd, sd, _, ord, ps, rfl, M.mono hs, pl, trivial, .inl ⟨e, hep, rfl, st4, _, _, rfl, rfl, _, rfl, ?_⟩⟩
      by_cases c4 : e.steps < 4
      · refine itep (decide_eq_true (by omega)) ?_
        have eb : ([e].foldl (better new) acc) = match acc with
            | none => some (e, spansOf e.thing.lines new)
            | some (b, sp) => if costOf (spansOf e.thing.lines new) ≤ costOf sp then some (e, spansOf e.thing.lines new) else some (b, sp) := by
          show better new acc e = _
          unfold better
          rw [if_pos c4]
          cases acc <;> rfl
        rw [eb]
        refine ⟨_, rfl, _, rfl, a, _, _, _, rfl, rfl, SqT.of (hs _ _ ta1), rfl, ?_⟩
        have ll := lines_le eok
        refine ⟨q, qn, e.thing.lines, new, rfl, lsm hs hq2, lsm hs ta2, ll, tok.2, fun r as2 H3 hr3 s3 hd3 hsp3 => ?_⟩
        have b1 : (spansOf e.thing.lines new).length ≤ 5000 := by have := spansOf_len e.thing.lines new; have := tok.2; omega
        have b2 : ∀ s ∈ spansOf e.thing.lines new, s.2.2.length ≤ 5000 := fun s hs => Nat.le_trans (spansGo_short hs) (by have := tok.2; omega)
        have hs3 := Same.trans hs s3
        have nr : ¬ S r := fr hs hr3
        cases acc with
        | none =>
          obtain ⟨rfl, rfl⟩ := hb
          refine ⟨_, rfl, _, rfl, ?_⟩
          refine ⟨_, rfl, _, rfl, ?_⟩
          exact ⟨_, r, _, _, _, as2, rfl, nr, hs3, hd3, rfl, hsp3, b1, b2⟩
        | some x =>
          obtain ⟨b, sp⟩ := x
          obtain ⟨rfl, hb1, hb2, hb3⟩ := hb
          refine ⟨_, rfl, _, rfl, ?_⟩
          refine ⟨_, rfl, r, as2, _, rfl, hd3, hsp3, b1, b2, fun H4 s4 => ?_⟩
          refine ⟨_, rfl, lr, bs, sp, rfl, s4 _ _ (s3 _ _ hlr), hb1.mono (tups_of (Same.trans s3 s4)), hb2, hb3, fun H5 s5 => ?_⟩
          have s45 := Same.trans s4 s5
          refine ⟨_, _, rfl, rfl, _, rfl, ?_⟩
          by_cases cc : costOf (spansOf e.thing.lines new) ≤ costOf sp
          · refine itep (decide_eq_true (by omega)) ?_
            refine ⟨_, rfl, _, rfl, ?_⟩
            dsimp only
            rw [if_pos cc]
            exact ⟨_, r, _, _, _, as2, rfl, nr, Same.trans hs3 s45, s45 _ _ hd3, rfl, hsp3.mono (tups_of s45), b1, b2⟩
          · refine iten (by simp; omega) ?_
            dsimp only
            rw [if_neg cc]
            exact ⟨_, lr, _, _, _, bs, rfl, nlr, Same.trans hs3 s45, s45 _ _ (s3 _ _ hlr), rfl, hb1.mono (tups_of (Same.trans s3 s45)), hb2, hb3⟩
      · refine iten (by simp; omega) ?_
        have eb : ([e].foldl (better new) acc) = acc := by
          show better new acc e = _
          unfold better
          rw [if_neg c4]
        rw [eb]
        exact ⟨v4, lr, _, _, _, bs, rfl, nlr, hs, hlr, hb⟩
    · rintro σ H1 ⟨v4, lr, v6, v7, v8, bs, rfl, nlr, hs, hlr, hb⟩
      have el : ((as.map V.ref).length) = (lvs ps).length := by rw [List.length_map]; exact Paired.length LV
      rw [el, List.take_length] at hb
      change BAt H1 bs (best new (lvs ps)) v4 at hb
      have wput : ∀ (H2 : Hp), Same H H2 → planLeaf ps n new = ⟨n, .leaf new, 0, none⟩ → ∃ v H3, (some (V.ref a) : Option V) = some v ∧ True ∧ (∃ kvs, H2 wd = some (.dK kvs) ∧ kvs.length < sizeLine ∧ H3 = upd H2 wd (.dK (putK kvs (Sum.inr n) (.ref a))) ∧ Q .non H3) := by
        intro H2 s2 ep
        obtain ⟨kvs, g1, g2, g3⟩ := (MD.mono (delP_mono s2)).putW (e := planLeaf ps n new) (a := a) (by rw [ep]; exact ta.mono (Tups.trans (tups_of s2) (tups_delP (hS2 s2)))) (by rw [ep]) (by rw [ep]; exact hn) hps
        rw [show (planLeaf ps n new).name = n by rw [ep], delP_upd (fun z => by obtain ⟨xs, q⟩ := hS _ z; rw [h3] at q; cases q)] at g3
        exact ⟨_, _, rfl, trivial, kvs, delP_same _ _ g1, g2, rfl, k _ (But.put (But.of s2) (.inl rfl)) g3⟩
      cases hbest : best new (lvs ps) with
      | none =>
        rw [hbest] at hb
        obtain ⟨rfl, rfl⟩ := hb
        have ep : planLeaf ps n new = ⟨n, .leaf new, 0, none⟩ := by unfold planLeaf; rw [hbest]
        obtain ⟨v, H3, _, _, kvs, g1, g2, rfl, g4⟩ := wput H1 hs ep
        refine ⟨_, rfl, _, rfl, ?_⟩
        refine ⟨_, rfl, _, rfl, p, _, dx, _, _, rfl, hs _ _ h1, T.clP, T.aP_wholes, pk_wholes, _, rfl, wd, _, rfl, DPut.k (k := Sum.inr n) g1 g2, ?_⟩
        exact g4
      | some x =>
        obtain ⟨b, sp⟩ := x
        rw [hbest] at hb
        obtain ⟨rfl, hb1, hb2, hb3⟩ := hb
        refine ⟨_, rfl, _, rfl, ?_⟩
        refine ⟨_, rfl, lr, bs, sp, rfl, hlr, hb1, hb2, hb3, fun H2 s2 => ?_⟩
        have hs2 := Same.trans hs s2
        refine ⟨_, rfl, a, _, _, _, rfl, rfl, SqT.of (hs2 _ _ ta1), rfl, _, _, rfl, .inr ⟨_, SqT.of (lsm hs2 ta2), rfl⟩, _, _, rfl, rfl, _, rfl, ?_⟩
        rw [List.length_map]
        by_cases cc : costOf sp < new.length
        · refine itep (decide_eq_true (by omega)) ?_
          have ep : planLeaf ps n new = ⟨n, .leaf new, b.steps + 1, some (b.name, sp)⟩ := by unfold planLeaf; rw [hbest]; simp only [cc, if_true]
          refine ⟨_, rfl, _, rfl, by show 2 ≤ sizeLine; decide, fun u hu => ?_⟩
          have s3 := same_new (o := .tup [V.str b.name, V.ref lr]) hu
          have hs3 := Same.trans hs2 s3
          have nu : ¬ S u := fr hs2 hu
          obtain ⟨kvs, g1, g2, g3⟩ := (MD.mono (delP_mono hs3)).putS (e := planLeaf ps n new) (u := u) (r := lr) (as := bs) (b := b.name) (sp := sp) (by rw [ep]) (by rw [delP_ne nu]; exact upd_same) (by rw [delP_ne nlr]; exact s3 _ _ (s2 _ _ hlr)) (hb1.mono (Tups.trans (tups_of (Same.trans s2 s3)) (tups_delP (hS2 hs3)))) (by rw [ep]; exact hn) hps
          rw [show (planLeaf ps n new).name = n by rw [ep], delP_upd (fun z => by obtain ⟨xs, q⟩ := hS _ z; rw [h5] at q; cases q)] at g3
          refine ⟨_, rfl, p, _, dx, _, _, rfl, hs3 _ _ h1, T.clP, T.aP_spans, pk_spans, _, rfl, sd, _, rfl, DPut.k (k := Sum.inr n) (delP_same _ _ g1) g2, ?_⟩
          exact k _ (But.put (But.of hs3) (.inr rfl)) g3
        · refine iten (by simp; omega) ?_
          have ep : planLeaf ps n new = ⟨n, .leaf new, 0, none⟩ := by unfold planLeaf; rw [hbest]; simp only [cc, if_false]
          obtain ⟨v, H3, _, _, kvs, g1, g2, rfl, g4⟩ := wput H2 hs2 ep
          refine ⟨_, rfl, _, rfl, p, _, dx, _, _, rfl, hs2 _ _ h1, T.clP, T.aP_wholes, pk_wholes, _, rfl, wd, _, rfl, DPut.k (k := Sum.inr n) g1 g2, ?_⟩
          exact g4
end
end An

namespace An
open PySem PySem.Spec L2
/-- a pack, its dicts told -/
def PackW (CP : Addr) (h : Hp) (p wd sd : Addr) (L : Cont) : Prop := PkMid CP h p wd sd (nms L) (planAll L) ∧ StOk L
theorem PackW.at {CP : Addr} {h : Hp} {p wd sd : Addr} {L : Cont} (k : PackW CP h p wd sd L) : PackAt CP h p L := ⟨⟨wd, sd, k.1⟩, k.2⟩
theorem PackW.mono {CP : Addr} {h h' : Hp} {p wd sd : Addr} {L : Cont} (s : Same h h') (k : PackW CP h p wd sd L) : PackW CP h' p wd sd L := ⟨k.1.mono s, k.2⟩
theorem same_but {h0 H H' : Hp} {S : Addr → Prop} (s : Same h0 H) (b : But S H H') (n : ∀ c, S c → h0 c = none) : Same h0 H' := fun c o e => b c o (fun q => by rw [n c q] at e; cases e) (s c o e)
theorem tups_but {H H' : Hp} {S : Addr → Prop} (b : But S H H') (n : ∀ c xs, S c → H c ≠ some (.tup xs)) : Tups H H' := fun c xs e => b c _ (fun q => n c xs q e) e
theorem planAll_len (L : Cont) : (planAll L).length = L.length := by
  have := congrArg List.length (planAll_map L)
  rw [List.length_map] at this; exact this
theorem planAll_plan {L : Cont} (nd : (nms L).Nodup) (th : ∀ e ∈ L, ThOk e.2) : PkPlan (planAll L) := by
  refine ⟨by rw [planAll_names]; exact nd, planAll_ok L, fun e he => ?_⟩
  have h : (e.name, e.thing) ∈ L := by rw [← planAll_map L]; exact List.mem_map.mpr ⟨e, he, rfl⟩
  exact th _ h
theorem nms_take {L : Cont} {i : Nat} : nms (L.take i) = (nms L).take i := by unfold nms; rw [List.map_take]
theorem new_name {L : Cont} (nd : (nms L).Nodup) {i : Nat} {z : Str} {t : Thing} (h : L[i]? = some (z, t)) : z ∉ (planAll (L.take i)).map (·.name) := by
  rw [planAll_names, nms_take]
  intro m
  obtain ⟨j, hj⟩ := List.mem_iff_getElem?.mp m
  rw [List.getElem?_take] at hj
  split at hj
  · rename_i c
    have e2 : (nms L)[i]? = some z := by unfold nms; rw [List.getElem?_map, h]; rfl
    have := nodup_ix nd hj e2
    omega
  · cases hj
theorem lvs_snoc_leaf {ps : List PEnt} {e : PEnt} (h : e.thing.isLeaf = true) : lvs (ps ++ [e]) = lvs ps ++ [e] := by
  unfold lvs; rw [List.filter_append, List.filter_cons, if_pos h]; rfl
theorem lvs_snoc_no {ps : List PEnt} {e : PEnt} (h : ¬ e.thing.isLeaf = true) : lvs (ps ++ [e]) = lvs ps := by
  unfold lvs; rw [List.filter_append, List.filter_cons, if_neg h]; simp
theorem pk_put {o wd sd : Addr} : putF ("spans" : Str) (.ref sd) (putF ("wholes" : Str) (.ref wd) (putF ("order" : Str) (.ref o) [])) = pkF o wd sd := by
  have e1 : ¬ (("order" : Str) = "wholes") := by decide +kernel
  have e2 : ¬ (("order" : Str) = "spans") := by decide +kernel
  have e3 : ¬ (("wholes" : Str) = "spans") := by decide +kernel
  simp only [putF, e1, e2, e3, if_false, pkF]
section
variable {P : Program} {w : World} {K : PySem.W.Frag} {mg : Str → Option Value} {base : Heap}
/-! ### Pack.__init__ -/
def spPInit (P : Program) (w : World) (K : PySem.W.Frag) (n : Nat) (b : Bool) : Sp := fun vs H Q E => ∃ (p st r dx : Addr) (h0 : Hp) (L : Cont) (vr : List V), vs = [.ref p, .ref st, .ref r] ∧ H p = some (.ins (He.ga K "Pack") dx []) ∧ Same h0 H ∧ h0 p = none ∧
  StB P w (He.ga K "Pack") (He.ga K "Shelf") n b h0 st L ∧ h0 r = some (.lst vr) ∧ (∀ v ∈ vr, VOk h0 v) ∧ vr.length ≤ 2000 ∧
  ((∃ roots : List Str, vr = roots.map V.str ∧ (∀ z ∈ roots, z ∈ nms L) ∧ ∀ wd sd H', h0 wd = none → h0 sd = none → Same h0 H' → PackW (He.ga K "Pack") (delP H' fun c => ∃ xs, h0 c = some (.lst xs)) p wd sd (sub L roots) → Q .non H') ∨
    ((∃ v ∈ vr, hasV (nms L) v = false) ∧ ∀ H', Same h0 H' → E (.ref (He.ga K "NoName")) none H'))
theorem sc_P_init : FnScope ["self", "store", "roots", "leaves", "name", "thing"] ["self", "store", "roots"] (defScope s_P_init) := ⟨rfl, rfl, rfl, by decide +kernel, rfl, by decide +kernel, by decide +kernel⟩
theorem ok_P_init (T : Tx K mg) (n k : Nat) (b : Bool) (hk : 10 ≤ k) (W : Api P w K mg base n k b) : Gf P w K mg base (L2.CX P w) (k + 2) (He.ma K (He.ga K "Pack") "__init__") ["self", "store", "roots"] (spPInit P w K n b) := by
  have G_reached : Gf P w K mg base (L2.CX P w) (k + 1) _ _ (spReached P w K n b) := ok_reached T n k b (by omega) W
  have GP_keep_leaf : Gf P w K mg base CX0 8 _ _ (spKeep K) := ok_P_keep_leaf T
  refine gf_of T.d_P_init sc_P_init (fun _ _ _ _ _ _ us hl => match us, hl with | [_, _, _], _ => rfl) (fun vs H Q E h => ?_) (fun cdv A outer s H vs Q E hr h => ?_)
  · obtain ⟨p, st, r, dx, h0, L, vr, rfl, _⟩ := h; rfl
  · obtain ⟨p, st, r, dx, h0, L, vr, rfl, hp, s0, hp0, sb, hr0, vo, ln, k⟩ := h
    have ok := sb.ok
    rcases k with ⟨roots, rfl, hin, k⟩ | ⟨kf, k⟩
    · refine ⟨_, pss_cons (ps_fld (pv 0) (pe_fn G_reached (hr.mono (by omega)) T.g_reached passL (pa_cons (pv 1) (pa_cons (pv 2) pa_nil))) rfl)
      (pss_cons (ps_fld (pv 0) pe_dnewK rfl)
      (pss_cons (ps_fld (pv 0) pe_dnewK rfl)
      (pss_cons (ps_set (i := 3) sc_P_init.nd rfl (Or.inl rfl) (pe_lst pa_nil))
      (pss_one (ps_for (passes_of rfl) rfl (pi_list (pe_fld (pv 0) rfl)) (pg_name (i := 4) sc_P_init.nd rfl (Or.inl rfl))
        (pss_cons (ps_set (i := 5) sc_P_init.nd rfl (Or.inl rfl) (pe_mt W.cl W.m_thing W.G_thing (hr.mono (by omega)) passL (pv 1) (pa_cons (pv 4) pa_nil)))
        (pss_one (ps_if (pt_cmpR op_eq (pe_ix (r := rIxT K) ix_tup (pv 5) pe_int (fun _ _ => rfl)) pe_str (nomark _))
          (pss_cons (ps_expr (pe_mt T.clP T.mP_keep_leaf GP_keep_leaf (hr.mono (by omega)) pass0 (pv 0) (pa_cons (pv 4) (pa_cons (pv 5) (pa_cons (pv 3) pa_nil)))))
          (pss_one (ps_expr (pe_bm PySem.F.plainAttrs_list PySem.F.slot_list_append PySem.F.type_list_append mt_append (pv 3) (pa_cons (pe_tup (pa_cons (pv 4) (pa_cons (pe_ix (r := rIxT K) ix_tup (pv 5) pe_int (fun _ _ => rfl)) pa_nil))) pa_nil)))))
          (pss_one (ps_dput (hu_of hr) (pe_fld (pv 0) rfl) (pv 4) (pv 5) rfl)))))))))), ?_⟩
      refine ⟨_, rfl, _, rfl, st, r, L, _, rfl, sb.mono s0, s0 _ _ hr0, fun v hv => vok_same s0 (vo v hv), ln, .inl ⟨roots, rfl, hin, fun l H1 hl s1 hl1 => ?_⟩⟩
      obtain ⟨L', eL⟩ : ∃ L', L' = sub L roots := ⟨_, rfl⟩
      rw [← eL] at hl1 k
      have ok' : StOk L' := by rw [eL]; exact ok.sub roots
      have hp1 := s1 _ _ hp
      have npl : p ≠ l := ne_of_none hp hl
      have hl0 : h0 l = none := L2.Same.free s0 hl
      refine ⟨_, rfl, p, _, dx, _, rfl, hp1, T.clP, T.aP_order, by show 0 < 1000; decide, ?_⟩
      obtain ⟨A1, eA1⟩ : ∃ A1, A1 = upd H1 p (.ins (He.ga K "Pack") dx (putF ("order" : Str) (.ref l) [])) := ⟨_, rfl⟩
      have a1p : A1 p = some (.ins (He.ga K "Pack") dx (putF ("order" : Str) (.ref l) [])) := by rw [eA1]; exact upd_same
      have a1l : A1 l = some (.lst ((nms L').map V.str)) := by rw [eA1, upd_ne (Ne.symm npl)]; exact hl1
      have a1s : Same h0 A1 := by rw [eA1]; exact Same.mut (Same.trans s0 s1) hp0
      rw [← eA1]
      refine fun wd hwd => ?_
      have npw : p ≠ wd := ne_of_none a1p hwd
      refine ⟨_, rfl, p, _, dx, _, rfl, by rw [upd_ne npw]; exact a1p, T.clP, T.aP_wholes, by show 1 < 1000; decide, ?_⟩
      obtain ⟨A2, eA2⟩ : ∃ A2, A2 = upd (upd A1 wd (.dK [])) p (.ins (He.ga K "Pack") dx (putF ("wholes" : Str) (.ref wd) (putF ("order" : Str) (.ref l) []))) := ⟨_, rfl⟩
      have a2p : A2 p = some (.ins (He.ga K "Pack") dx (putF ("wholes" : Str) (.ref wd) (putF ("order" : Str) (.ref l) []))) := by rw [eA2]; exact upd_same
      have a2w : A2 wd = some (.dK []) := by rw [eA2, upd_ne (Ne.symm npw)]; exact upd_same
      have a2l : A2 l = some (.lst ((nms L').map V.str)) := by rw [eA2, upd_ne (Ne.symm npl), upd_ne (ne_of_none a1l hwd)]; exact a1l
      have a2s : Same h0 A2 := by rw [eA2]; exact Same.mut (Same.new a1s hwd) hp0
      have hw0 : h0 wd = none := L2.Same.free a1s hwd
      rw [← eA2]
      refine fun sd hsd => ?_
      have nps : p ≠ sd := ne_of_none a2p hsd
      have nws : wd ≠ sd := ne_of_none a2w hsd
      refine ⟨_, rfl, p, _, dx, _, rfl, by rw [upd_ne nps]; exact a2p, T.clP, T.aP_spans, by show 2 < 1000; decide, ?_⟩
      rw [pk_put]
      obtain ⟨A3, eA3⟩ : ∃ A3, A3 = upd (upd A2 sd (.dK [])) p (.ins (He.ga K "Pack") dx (pkF l wd sd)) := ⟨_, rfl⟩
      have a3p : A3 p = some (.ins (He.ga K "Pack") dx (pkF l wd sd)) := by rw [eA3]; exact upd_same
      have a3w : A3 wd = some (.dK []) := by rw [eA3, upd_ne (Ne.symm npw), upd_ne nws]; exact a2w
      have a3d : A3 sd = some (.dK []) := by rw [eA3, upd_ne (Ne.symm nps)]; exact upd_same
      have a3l : A3 l = some (.lst ((nms L').map V.str)) := by rw [eA3, upd_ne (Ne.symm npl), upd_ne (ne_of_none a2l hsd)]; exact a2l
      have a3s : Same h0 A3 := by rw [eA3]; exact Same.mut (Same.new a2s hsd) hp0
      have hs0 : h0 sd = none := L2.Same.free a2s hsd
      rw [← eA3]
      refine ⟨Nat.zero_le _, fun lv hlv => ?_⟩
      obtain ⟨A4, eA4⟩ : ∃ A4, A4 = upd A3 lv (.lst []) := ⟨_, rfl⟩
      have s34 : Same A3 A4 := by rw [eA4]; exact same_new hlv
      have hlv0 : h0 lv = none := L2.Same.free a3s hlv
      obtain ⟨S, eS⟩ : ∃ S : Addr → Prop, S = fun c => c = lv ∨ ∃ xs, h0 c = some (.lst xs) := ⟨_, rfl⟩
      have Slv : S lv := by rw [eS]; exact .inl rfl
      have nS : ∀ {c : Addr}, c ≠ lv → h0 c = none → ¬ S c := fun n h z => by
        rw [eS] at z
        rcases z with z | ⟨xs, z⟩
        · exact n z
        · rw [h] at z; cases z
      have hSx : ∀ {Hx : Hp} {ys : List V}, Same h0 Hx → Hx lv = some (.lst ys) → ∀ c, S c → ∃ xs, Hx c = some (.lst xs) := fun s h c z => by
        rw [eS] at z
        rcases z with z | ⟨xs, z⟩
        · rw [z]; exact ⟨_, h⟩
        · exact ⟨xs, s _ _ z⟩
      have nl3 : ∀ {c : Addr} {o : HO}, A3 c = some o → h0 c = none → (delP A4 S) c = some o := fun hc h => by rw [delP_ne (nS (ne_of_none hc hlv) h)]; exact s34 _ _ hc
      have nll : l ≠ lv := ne_of_none a3l hlv
      have npv : p ≠ lv := ne_of_none a3p hlv
      have M0 : PkMid (He.ga K "Pack") (delP A4 S) p wd sd (nms L') [] := ⟨⟨dx, l, [], [], nl3 a3p hp0, nl3 a3l hl0, nl3 a3w hw0, .nil, nl3 a3d hs0, .nil⟩, nws⟩
      rw [← eA4]
      refine ⟨_, rfl, p, _, dx, _, _, rfl, s34 _ _ a3p, T.clP, T.aP_order, pk_order, l, rfl, ⟨_, SqL.of (s34 _ _ a3l)⟩, for_it walk_list (fun i σ H' => ∃ (v4 v5 : Option V) (as : List Addr), σ = [some (.ref p), some (.ref st), some (.ref r), some (.ref lv), v4, v5] ∧ Same h0 H' ∧ PkMid (He.ga K "Pack") (delP H' S) p wd sd (nms L') (planAll (L'.take i)) ∧ H' lv = some (.lst (as.map V.ref)) ∧ LvAt H' as (lvs (planAll (L'.take i))) ∧ H' l = some (.lst ((nms L').map V.str)) ∧ H' p = some (.ins (He.ga K "Pack") dx (pkF l wd sd)))
        ⟨none, none, [], rfl, Same.trans a3s s34, M0, by rw [eA4]; exact upd_same, .nil, s34 _ _ a3l, s34 _ _ a3p⟩ (fun _ _ _ _ ⟨_, _, _, _, _, _, _, _, q, _⟩ => SqL.of q) ?_ ?_⟩
      · rintro i x σ H2 H3 hi ⟨v4, v5, as, rfl, hs, M, hlv2, LV, hl2, hp2⟩ ⟨rfl, hx⟩
        obtain ⟨z', hz, rfl⟩ := map_get hx
        obtain ⟨⟨y, t⟩, hzt, ez⟩ := map_get hz
        subst ez
        have hmem : (z', t) ∈ L' := List.mem_of_getElem? hzt
        have hmemL : (z', t) ∈ L := by rw [eL] at hmem; exact (mem_sub.mp hmem).1
        have tok := ok'.th _ hmem
        have nn := new_name ok'.nd hzt
        have pl : PkPlan (planAll (L'.take i)) := planAll_plan (by rw [nms_take]; exact List.Nodup.sublist (List.take_sublist _ _) ok'.nd) fun e he => ok'.th e (List.mem_of_mem_take he)
        have ls : (planAll (L'.take i)).length ≤ 1000 := by rw [planAll_len, List.length_take]; have := ok'.sz; omega
        have esn : planAll (L'.take (i + 1)) = planAll (L'.take i) ++ [planOne (planAll (L'.take i)) (z', t)] := by rw [take_snoc hzt, planAll_snoc]
        obtain ⟨dx', fs', i1, i2, i3, i4⟩ := st_ins (sb.mono hs)
        rw [esn]
        obtain ⟨ps, eps⟩ : ∃ ps, ps = planAll (L'.take i) := ⟨_, rfl⟩
        rw [← eps] at M LV nn pl ls ⊢
        refine ⟨_, rfl, st, dx', fs', rfl, i1, i3, _, rfl, st, _, L, rfl, sb.mono hs, trivial, .inl ⟨z', t, hmemL, rfl, fun a H4 s4 ta => ?_⟩⟩
        have hs4 := Same.trans hs s4
        have M4 := M.mono (delP_mono (S := S) s4)
        obtain ⟨_, _, _, _, g1, g2, g3, g4, g5, g6⟩ := id M4.ex
        have nodkl : ∀ {c : Addr}, (c = wd ∨ c = sd) → ∃ kvs, H4 c = some (.dK kvs) := by
          rintro c (rfl | rfl)
          · exact ⟨_, delP_same _ _ g3⟩
          · exact ⟨_, delP_same _ _ g5⟩
        have t4 := tups_of s4
        have lv4 := s4 _ _ hlv2
        have other : ∀ (H5 : Hp) (tg : Str) (xs : List V), H5 = H4 → H4 a = some (.tup (.str tg :: xs)) → ¬ tg = ("leaf" : Str) → planOne ps (z', t) = ⟨z', t, 0, none⟩ → ¬ t.isLeaf = true →
            ∃ kvs, H4 wd = some (.dK kvs) ∧ kvs.length < sizeLine ∧ ∃ (v4 v5 : Option V) (as : List Addr), ([some (.ref p), some (.ref st), some (.ref r), some (.ref lv), some (.str z'), some (.ref a)] : L2.St) = [some (.ref p), some (.ref st), some (.ref r), some (.ref lv), v4, v5] ∧ Same h0 (upd H4 wd (.dK (putK kvs (Sum.inr z') (.ref a)))) ∧ PkMid (He.ga K "Pack") (delP (upd H4 wd (.dK (putK kvs (Sum.inr z') (.ref a)))) S) p wd sd (nms L') (ps ++ [planOne ps (z', t)]) ∧ upd H4 wd (.dK (putK kvs (Sum.inr z') (.ref a))) lv = some (.lst (as.map V.ref)) ∧ LvAt (upd H4 wd (.dK (putK kvs (Sum.inr z') (.ref a)))) as (lvs (ps ++ [planOne ps (z', t)])) ∧ upd H4 wd (.dK (putK kvs (Sum.inr z') (.ref a))) l = some (.lst ((nms L').map V.str)) ∧ upd H4 wd (.dK (putK kvs (Sum.inr z') (.ref a))) p = some (.ins (He.ga K "Pack") dx (pkF l wd sd)) := by
          intro H5 tg xs _ _ _ ep nl
          obtain ⟨kvs, q1, q2, q3⟩ := M4.putW (e := planOne ps (z', t)) (a := a) (by rw [ep]; exact ta.mono (tups_delP (hSx hs4 lv4))) (by rw [ep]) (by rw [ep]; exact nn) ls
          have q1' := delP_same _ _ q1
          have nwl : wd ≠ lv := fun z => by rw [z, lv4] at q1'; cases q1'
          rw [show (planOne ps (z', t)).name = z' by rw [ep], delP_upd (nS nwl hw0)] at q3
          refine ⟨kvs, q1', q2, _, _, as, rfl, Same.mut hs4 hw0, q3, nodk q1' lv4 (fun _ z => nomatch z), ?_, nodk q1' (s4 _ _ hl2) (fun _ z => nomatch z), nodk q1' (s4 _ _ hp2) (fun _ z => nomatch z)⟩
          rw [lvs_snoc_no (by rw [ep]; exact nl)]
          exact LvAt.mono (Tups.trans t4 (tups_dk q1')) LV
        cases t with
        | leaf new =>
          obtain ⟨qn, ta1, ta2⟩ := id ta
          refine ⟨_, rfl, a, _, _, _, rfl, rfl, SqT.of ta1, rfl, rfl, _, rfl, ?_⟩
          refine itep (decide_eq_true rfl) ?_
          refine ⟨_, rfl, p, dx, _, rfl, s4 _ _ hp2, pk_no, _, rfl, _, rfl, _, rfl, p, wd, sd, a, lv, as, nms L', ps, z', new, S, rfl, hSx hs4 lv4, M4, pl, ta, tok, lv4, LV.mono t4, nn, ls, fun H5 b5 M5 => ?_⟩
          have t45 : Tups H4 H5 := tups_but b5 fun c xs hc e => by obtain ⟨kvs, q⟩ := nodkl hc; rw [q] at e; cases e
          have keep : ∀ {c : Addr} {o : HO}, H4 c = some o → (∀ kvs, o ≠ .dK kvs) → H5 c = some o := fun hc ho => b5 _ _ (fun q => by obtain ⟨kvs, q⟩ := nodkl q; rw [q] at hc; cases hc; exact ho _ rfl) hc
          have hs5 : Same h0 H5 := same_but hs4 b5 (by rintro c (rfl | rfl); exact hw0; exact hs0)
          have lv5 : H5 lv = some (.lst (as.map V.ref)) := keep lv4 (fun _ z => nomatch z)
          refine ⟨_, rfl, .inl ⟨rfl, _, SqL.of lv5⟩, _, rfl, _, rfl, a, _, _, _, rfl, rfl, SqT.of (t45 _ _ ta1), rfl, by show 2 ≤ sizeLine; decide, fun u hu => ?_⟩
          have s6 := same_new (o := .tup [V.str z', V.ref qn]) hu
          have la := Paired.length LV
          have lvl : (lvs ps).length ≤ 1000 := Nat.le_trans (List.length_filter_le _ _) ls
          refine ⟨lv, _, _, rfl, rfl, s6 _ _ lv5, lt_line (by rw [List.length_map]; omega), ?_⟩
          have ep : planOne ps (z', .leaf new) = planLeaf ps z' new := rfl
          obtain ⟨pn1, pn2⟩ := planLeaf_name ps z' new
          have t6 : Tups (upd H5 u (.tup [V.str z', V.ref qn])) (upd (upd H5 u (.tup [V.str z', V.ref qn])) lv (.lst (as.map V.ref ++ [V.ref u]))) := tups_lst (s6 _ _ lv5)
          refine ⟨_, _, as ++ [u], rfl, Same.mut (Same.new hs5 hu) hlv0, ?_, ?_, ?_, ?_, ?_⟩
          · rw [ep, delP_upd_self Slv]
            exact M5.mono (delP_mono s6)
          · rw [upd_same, List.map_append]; rfl
          · rw [ep, lvs_snoc_leaf (by rw [pn2]; rfl)]
            refine paired_snoc (LvAt.mono (Tups.trans (Tups.trans t4 t45) (Tups.trans (tups_of s6) t6)) LV) ⟨qn, ?_, ?_⟩
            · rw [pn1]; exact t6 _ _ upd_same
            · rw [pn2]; exact t6 _ _ (s6 _ _ (t45 _ _ ta2))
          · rw [upd_ne nll]; exact s6 _ _ (keep (s4 _ _ hl2) (fun _ z => nomatch z))
          · rw [upd_ne npv]; exact s6 _ _ (keep (s4 _ _ hp2) (fun _ z => nomatch z))
        | tree rows =>
          obtain ⟨qn, as2, ta1, ta2⟩ := id ta
          obtain ⟨kvs, q1, q2, q3⟩ := other H4 _ _ rfl ta1 (by decide) rfl (fun z => nomatch z)
          refine ⟨_, rfl, a, _, _, _, rfl, rfl, SqT.of ta1, rfl, rfl, _, rfl, ?_⟩
          refine iten (ne_s (by decide)) ?_
          exact ⟨_, rfl, _, rfl, p, _, dx, _, _, rfl, s4 _ _ hp2, T.clP, T.aP_wholes, pk_wholes, _, rfl, wd, _, rfl, DPut.k (k := Sum.inr z') q1 q2, q3⟩
        | note tn pn wn =>
          obtain ⟨qn, ta1, ta2⟩ := id ta
          obtain ⟨kvs, q1, q2, q3⟩ := other H4 _ _ rfl ta1 (by decide) rfl (fun z => nomatch z)
          refine ⟨_, rfl, a, _, _, _, rfl, rfl, SqT.of ta1, rfl, rfl, _, rfl, ?_⟩
          refine iten (ne_s (by decide)) ?_
          exact ⟨_, rfl, _, rfl, p, _, dx, _, _, rfl, s4 _ _ hp2, T.clP, T.aP_wholes, pk_wholes, _, rfl, wd, _, rfl, DPut.k (k := Sum.inr z') q1 q2, q3⟩
      · rintro σ H2 ⟨v4, v5, as, rfl, hs, M, hlv2, LV, hl2, hp2⟩
        have e1 : ((nms L').map V.str).length = L'.length := by unfold nms; rw [List.length_map, List.length_map]
        rw [e1, List.take_length] at M
        exact k wd sd H2 hw0 hs0 hs ⟨M.mono (delP_sub fun c z => by rw [eS]; exact .inr z), ok'⟩
    · refine ⟨_, pss_cons (ps_fld (pv 0) (pe_fn G_reached (hr.mono (by omega)) T.g_reached (passT (takes_of rfl rfl rfl rfl)) (pa_cons (pv 1) (pa_cons (pv 2) pa_nil))) rfl) pss_never, ?_⟩
      exact ⟨_, rfl, _, rfl, st, r, L, _, rfl, sb.mono s0, s0 _ _ hr0, fun v hv => vok_same s0 (vo v hv), ln, .inr ⟨kf, fun H' s1 => k H' (Same.trans s0 s1)⟩⟩
/-! ### a store on a base is one on a deeper base -/
theorem StAt.up {P : Program} {w : World} {CP CS : Addr} {n : Nat} {h : Hp} {p : Addr} {L : Cont} (k : StAt P w CP CS n h p L) : StAt P w CP CS (n + 1) h p L := by
  induction k with
  | pack k => exact .pack k
  | shelf0 k => exact .shelf0 k
  | shelf1 kb s ho ht hg k ih => exact .shelf1 ih s ho ht hg k
theorem ShAt.up {P : Program} {w : World} {CP CS : Addr} {n : Nat} {h : Hp} {p o t g : Addr} {L : Cont} (k : ShAt P w CP CS n h p o t g L) : ShAt P w CP CS (n + 1) h p o t g L := by
  obtain ⟨vb, Lb, Lo, e, c, q | ⟨m, b, hb, e1, e2, k1, k2⟩⟩ := k
  · exact ⟨vb, Lb, Lo, e, c, .inl q⟩
  · exact ⟨vb, Lb, Lo, e, c, .inr ⟨m + 1, b, hb, by rw [e1], e2, k1.up, k2⟩⟩
end
end An

namespace An
open PySem PySem.Spec L2
/-! ### the greatest numbers -/
theorem gr_step {gks : List (Key × V)} {b : Nat} {L : Cont} (G : GrOk gks b L) {hd : Str} {kk z : Nat} {th : Thing} (ho : HdOk th hd) (hk : kk < b) (hz : (valV gks (Sum.inr hd)).getD (.int 0) = .int ((z : Nat) : Int)) :
    GrOk (putK gks (Sum.inr hd) (.int ((max kk z : Nat) : Int))) b (L ++ [(nameOf hd kk, th)]) := by
  constructor
  · intro e he hd' k' e1 e2
    rw [valV_put]
    rcases List.mem_append.mp he with q | q
    · obtain ⟨z', h1, h2⟩ := G.1 e q hd' k' e1 e2
      by_cases c : hd' = hd
      · rw [if_pos (by rw [c])]
        rw [c] at h1
        rw [h1] at hz
        have : z' = z := by
          have h := V.int.inj (show V.int ((z' : Nat) : Int) = V.int ((z : Nat) : Int) from hz)
          omega
        exact ⟨_, rfl, by omega⟩
      · rw [if_neg (fun q => c (Sum.inr.inj q))]
        exact ⟨z', h1, h2⟩
    · have q' := List.mem_singleton.mp q
      rw [q'] at e1 e2
      obtain ⟨c1, c2⟩ := name_inj ho e2 e1
      rw [if_pos (by rw [c1])]
      exact ⟨_, rfl, by omega⟩
  · intro hd' v h
    rw [valV_put] at h
    split at h
    · cases h
      refine ⟨_, rfl, ?_⟩
      have : z < b := by
        cases q : valV gks (Sum.inr hd) with
        | none =>
          rw [q] at hz
          have : V.int 0 = V.int ((z : Nat) : Int) := hz
          have : (0 : Int) = ((z : Nat) : Int) := by simpa using this
          omega
        | some v =>
          obtain ⟨z', e1, e2⟩ := G.2 hd v q
          rw [q, e1] at hz
          have h := V.int.inj (show V.int ((z' : Nat) : Int) = V.int ((z : Nat) : Int) from hz)
          omega
      omega
    · exact G.2 hd' v h
theorem gr_get {gks : List (Key × V)} {b : Nat} {L : Cont} (G : GrOk gks b L) (hd : Str) : ∃ z : Nat, (valV gks (Sum.inr hd)).getD (.int 0) = .int ((z : Nat) : Int) := by
  cases q : valV gks (Sum.inr hd) with
  | none => exact ⟨0, rfl⟩
  | some v => obtain ⟨z, e1, _⟩ := G.2 hd v q; exact ⟨z, by rw [e1]; rfl⟩
theorem gr_mono {gks : List (Key × V)} {b c : Nat} {L : Cont} (G : GrOk gks b L) (h : b ≤ c) : GrOk gks c L := ⟨G.1, fun hd v q => let ⟨z, e, l⟩ := G.2 hd v q; ⟨z, e, Nat.lt_of_lt_of_le l h⟩⟩
theorem td_step {kvs : TL} {L L' : Cont} (T : TdOk kvs L) (s : ∀ e ∈ L, e ∈ L') {th : Thing} {a : Addr} {nm : Str} (h : (nm, th) ∈ L') : TdOk (tdPut kvs th a nm) L' := by
  intro x hx
  rcases tdPut_mem hx with q | q | ⟨y, _, q1, q2⟩
  · exact s _ (T x q)
  · rw [q]; exact h
  · rw [q2]; exact h
theorem sh_put {vb : V} {o t g : Addr} : putF ("greatest" : Str) (.ref g) (putF ("told" : Str) (.ref t) (putF ("own" : Str) (.ref o) (putF ("base" : Str) vb []))) = shF vb o t g := by
  have e1 : ¬ (("base" : Str) = "own") := by decide +kernel
  have e2 : ¬ (("base" : Str) = "told") := by decide +kernel
  have e3 : ¬ (("base" : Str) = "greatest") := by decide +kernel
  have e4 : ¬ (("own" : Str) = "told") := by decide +kernel
  have e5 : ¬ (("own" : Str) = "greatest") := by decide +kernel
  have e6 : ¬ (("told" : Str) = "greatest") := by decide +kernel
  simp only [putF, e1, e2, e3, e4, e5, e6, if_false, shF]
theorem td_ne {P : Program} {w : World} {H : Hp} {t c : Addr} {kvs : TL} {o : HO} (h : H t = some (TD P w t kvs)) (e : H c = some o) (n : ∀ φ, o ≠ .ext φ) : c ≠ t := ne_of e h (n _)
section
variable {P : Program} {w : World} {K : PySem.W.Frag} {mg : Str → Option Value} {base : Heap}
/-! ### Shelf.note_down -/
def spNote (P : Program) (w : World) (K : PySem.W.Frag) : Sp := fun vs H Q _ => ∃ (p a dx o t g : Addr) (vb : V) (hd : Str) (kk z : Nat) (th : Thing) (kvs : TL) (gks : List (Key × V)), vs = [.ref p, .str (nameOf hd kk), .ref a] ∧
  H p = some (.ins (He.ga K "Shelf") dx (shF vb o t g)) ∧ TdAt P w H t kvs ∧ kvs.length ≤ 5000 ∧ H g = some (.dK gks) ∧ gks.length ≤ 5000 ∧ HdOk th hd ∧ kk < 100000 ∧ ThAt H a th ∧ (valV gks (Sum.inr hd)).getD (.int 0) = .int ((z : Nat) : Int) ∧
  ∀ H', But (fun c => c = t ∨ c = g) H H' → TdAt P w H' t (tdPut kvs th a (nameOf hd kk)) → H' g = some (.dK (putK gks (Sum.inr hd) (.int ((max kk z : Nat) : Int)))) → Q .non H'
theorem sc_S_note_down : FnScope ["self", "name", "thing", "head", "point", "number"] ["self", "name", "thing"] (defScope s_S_note_down) := ⟨rfl, rfl, rfl, by decide +kernel, rfl, by decide +kernel, by decide +kernel⟩
theorem ok_S_note_down (T : Tx K mg) : Gf P w K mg base CX0 1 (He.ma K (He.ga K "Shelf") "note_down") ["self", "name", "thing"] (spNote P w K) := by
  refine gf0_of T.d_S_note_down sc_S_note_down (fun _ _ _ _ _ _ us hl => match us, hl with | [_, _, _], _ => rfl) (fun vs H Q E h => ?_) (fun cdv A outer s H vs Q E hr h => ?_)
  · obtain ⟨p, a, dx, o, t, g, vb, hd, kk, z, th, kvs, gks, rfl, _⟩ := h; rfl
  · obtain ⟨p, a, dx, o, t, g, vb, hd, kk, z, th, kvs, gks, rfl, hp, ht, lk, hg, lg, ho, hk, ta, hz, k⟩ := h
    refine ⟨_, pss_cons (ps_asg (pe_partition (pv 1) pe_str) (pg_tup rfl (pgs_cons (pg_name (i := 3) sc_S_note_down.nd rfl (Or.inl rfl)) (pgs_cons (pg_name (i := 4) sc_S_note_down.nd rfl (Or.inl rfl)) (pgs_cons (pg_name (i := 5) sc_S_note_down.nd rfl (Or.inl rfl)) pgs_nil)))))
      (pss_cons (ps_tput hr.units (pe_fld (pv 0) rfl) (pv 2) (pv 1) rfl)
      (pss_one (ps_dput (hu_of hr) (pe_fld (pv 0) rfl) (pv 3) (pe_callB (call_max2 rfl) rfl T.n_max (by decide +kernel) (pa_cons (pe_callTy call_int_str rfl T.n_int (by decide +kernel) (pa_cons (pv 5) pa_nil)) (pa_cons (pe_dget2 (hu_of hr) (pe_fld (pv 0) rfl) (pv 3) pe_int ⟨rfl, rfl, rfl, rfl⟩) pa_nil))) rfl))), ?_⟩
    refine ⟨_, rfl, ⟨_, rfl⟩, _, _, rfl, rfl, by decide +kernel, le_line (by have := name_len ho hk; omega), fun u hu => ?_⟩
    rw [name_parts ho kk]
    have s1 := same_new (o := .tup [V.str hd, V.str ".", V.str (num kk)]) hu
    refine ⟨u, _, rfl, SqT.of upd_same, rfl, _, _, rfl, _, _, rfl, _, _, rfl, rfl, ?_⟩
    have nlen : (num kk).length ≤ 5 := num_len hk
    have hp1 := s1 _ _ hp
    have t1 : TdAt P w (upd H u (.tup [V.str hd, V.str ".", V.str (num kk)])) t kvs := ⟨s1 _ _ ht.1, fun x hx => (ht.2 x hx).mono (tups_of s1)⟩
    refine ⟨_, rfl, _, rfl, p, _, dx, _, _, rfl, hp1, T.clS, T.aS_told, sh_told, _, rfl, t, a, kvs, th, _, rfl, rfl, rfl, t1, ta.mono (tups_of s1), lt_line (by omega), ?_⟩
    obtain ⟨H2, eH2⟩ : ∃ H2, H2 = upd (upd H u (.tup [V.str hd, V.str ".", V.str (num kk)])) t (TD P w t (tdPut kvs th a (nameOf hd kk))) := ⟨_, rfl⟩
    have keep : ∀ {c : Addr} {o : HO}, H c = some o → (∀ φ, o ≠ .ext φ) → H2 c = some o := fun hc n => by rw [eH2, upd_ne (td_ne ht.1 hc n)]; exact s1 _ _ hc
    have tp2 : Tups H H2 := fun b xs e => keep e (fun _ z => nomatch z)
    have g2 : H2 g = some (.dK gks) := keep hg (fun _ z => nomatch z)
    have p2 : H2 p = some (.ins (He.ga K "Shelf") dx (shF vb o t g)) := keep hp (fun _ z => nomatch z)
    have tt2 : H2 t = some (TD P w t (tdPut kvs th a (nameOf hd kk))) := by rw [eH2]; exact upd_same
    have b2 : But (fun c => c = t ∨ c = g) H H2 := by rw [eH2]; exact But.put (But.of s1) (.inl rfl)
    have td2 : TdAt P w H2 t (tdPut kvs th a (nameOf hd kk)) := by
      refine ⟨tt2, fun x hx => ?_⟩
      rcases tdPut_mem hx with q | q | ⟨y, q0, q1, q2⟩
      · exact (ht.2 x q).mono tp2
      · rw [q]; exact ta.mono tp2
      · rw [q2]; rw [← q1]; exact (ht.2 y q0).mono tp2
    change Ends.nx _ _ (upd (upd H u (.tup [V.str hd, V.str ".", V.str (num kk)])) t (TD P w t (tdPut kvs th a (nameOf hd kk))))
    rw [← eH2]
    refine ⟨_, rfl, _, _, rfl, TL.int_num (by have := TL.numL_len (n := kk) (k := 5) (by decide) (by omega); omega), by show (num kk).length ≤ 640; omega, ?_⟩
    refine ⟨_, rfl, p, _, dx, _, _, rfl, p2, T.clS, T.aS_greatest, sh_great, g, rfl, .inl ⟨_, .inl g2⟩, _, rfl, _, DGet.k (k := Sum.inr hd) g2, ?_⟩
    rw [hz]
    refine ⟨_, _, rfl, ?_⟩
    have em : (if ((z : Nat) : Int) > ((kk : Nat) : Int) then ((z : Nat) : Int) else ((kk : Nat) : Int)) = ((max kk z : Nat) : Int) := by
      split <;> omega
    rw [em]
    refine ⟨_, rfl, p, _, dx, _, _, rfl, p2, T.clS, T.aS_greatest, sh_great, _, rfl, g, _, rfl, DPut.k (k := Sum.inr hd) g2 (lt_line (by omega)), ?_⟩
    have ngt : t ≠ g := fun z => by rw [z] at tt2; rw [g2] at tt2; cases tt2
    refine k _ (But.put b2 (.inr rfl)) (TdAt.mono td2 (upd_ne ngt) (tups_dk g2)) upd_same
end
end An

namespace An
open PySem PySem.Spec L2
theorem GrOk.nil (b : Nat) : GrOk [] b [] := ⟨fun _ h => (nomatch h), fun _ _ h => (nomatch h)⟩
theorem NmOk.nil (b : Nat) : NmOk b [] := fun _ h => (nomatch h)
section
variable {P : Program} {w : World} {K : PySem.W.Frag} {mg : Str → Option Value} {base : Heap}
/-! ### Shelf.__init__ -/
def spSInit (P : Program) (w : World) (K : PySem.W.Frag) : Sp := fun vs H Q _ => ∃ (p dx : Addr) (h0 : Hp) (vb : V) (Lb : Cont), vs = [.ref p, vb] ∧ H p = some (.ins (He.ga K "Shelf") dx []) ∧ Same h0 H ∧ h0 p = none ∧
  ((vb = .non ∧ Lb = []) ∨ ∃ bs, vb = .ref bs ∧ StAt P w (He.ga K "Pack") (He.ga K "Shelf") 0 h0 bs Lb ∧ NmOk Lb.length Lb) ∧
  ∀ o t g H', h0 o = none → h0 t = none → h0 g = none → Same h0 H' → ShAt P w (He.ga K "Pack") (He.ga K "Shelf") 1 H' p o t g Lb → (vb = .non → ShAt P w (He.ga K "Pack") (He.ga K "Shelf") 0 H' p o t g Lb) → Q .non H'
theorem sc_S_init : FnScope ["self", "base", "name"] ["self", "base"] (defScope s_S_init) := ⟨rfl, rfl, rfl, by decide +kernel, rfl, by decide +kernel, by decide +kernel⟩
theorem ok_S_init (T : Tx K mg) : Gf P w K mg base CX0 14 (He.ma K (He.ga K "Shelf") "__init__") ["self", "base"] (spSInit P w K) := by
  have GS_note_down : Gf P w K mg base CX0 1 _ _ (spNote P w K) := ok_S_note_down T
  refine gf0_of T.d_S_init sc_S_init (fun _ _ _ _ _ _ us hl => match us, hl with | [_, _], _ => rfl) (fun vs H Q E h => ?_) (fun cdv A outer s H vs Q E hr h => ?_)
  · obtain ⟨p, dx, h0, vb, Lb, rfl, _⟩ := h; rfl
  · obtain ⟨p, dx, h0, vb, Lb, rfl, hp, s0, hp0, kind, k⟩ := h
    have main : ∀ (te : TS) (D : Ends), (∀ (o t g : Addr) (A : Hp), h0 o = none → h0 t = none → h0 g = none → Same h0 A → A p = some (.ins (He.ga K "Shelf") dx (shF vb o t g)) → A o = some (.dK []) → A t = some (TD P w t []) → A g = some (.dK []) → o ≠ g → te D [some (.ref p), some vb, none] A) →
        (tSeq (sFld K (tVar 0) (tVar 1) "base") (tSeq (sFld K (tVar 0) tDNewK "own") (tSeq (sFld K (tVar 0) (tTNew P w) "told") (tSeq (sFld K (tVar 0) tDNewK "greatest") te)))) D [some (.ref p), some vb, none] H := by
      intro te D kk
      refine ⟨_, rfl, _, rfl, p, _, dx, _, rfl, hp, T.clS, T.aS_base, by show 0 < 1000; decide, ?_⟩
      obtain ⟨A1, eA1⟩ : ∃ A1, A1 = upd H p (.ins (He.ga K "Shelf") dx (putF ("base" : Str) vb [])) := ⟨_, rfl⟩
      have a1p : A1 p = some (.ins (He.ga K "Shelf") dx (putF ("base" : Str) vb [])) := by rw [eA1]; exact upd_same
      have a1s : Same h0 A1 := by rw [eA1]; exact Same.mut s0 hp0
      rw [← eA1]
      refine fun o ho => ?_
      have npo : p ≠ o := ne_of_none a1p ho
      refine ⟨_, rfl, p, _, dx, _, rfl, by rw [upd_ne npo]; exact a1p, T.clS, T.aS_own, by show 1 < 1000; decide, ?_⟩
      obtain ⟨A2, eA2⟩ : ∃ A2, A2 = upd (upd A1 o (.dK [])) p (.ins (He.ga K "Shelf") dx (putF ("own" : Str) (.ref o) (putF ("base" : Str) vb []))) := ⟨_, rfl⟩
      have a2p : A2 p = some (.ins (He.ga K "Shelf") dx (putF ("own" : Str) (.ref o) (putF ("base" : Str) vb []))) := by rw [eA2]; exact upd_same
      have a2o : A2 o = some (.dK []) := by rw [eA2, upd_ne (Ne.symm npo)]; exact upd_same
      have a2s : Same h0 A2 := by rw [eA2]; exact Same.mut (Same.new a1s ho) hp0
      have ho0 : h0 o = none := L2.Same.free a1s ho
      rw [← eA2]
      refine fun t ht => ?_
      have npt : p ≠ t := ne_of_none a2p ht
      have not' : o ≠ t := ne_of_none a2o ht
      refine ⟨_, rfl, p, _, dx, _, rfl, by rw [upd_ne npt]; exact a2p, T.clS, T.aS_told, by show 2 < 1000; decide, ?_⟩
      obtain ⟨A3, eA3⟩ : ∃ A3, A3 = upd (upd A2 t (TD P w t [])) p (.ins (He.ga K "Shelf") dx (putF ("told" : Str) (.ref t) (putF ("own" : Str) (.ref o) (putF ("base" : Str) vb [])))) := ⟨_, rfl⟩
      have a3p : A3 p = some (.ins (He.ga K "Shelf") dx (putF ("told" : Str) (.ref t) (putF ("own" : Str) (.ref o) (putF ("base" : Str) vb [])))) := by rw [eA3]; exact upd_same
      have a3t : A3 t = some (TD P w t []) := by rw [eA3, upd_ne (Ne.symm npt)]; exact upd_same
      have a3o : A3 o = some (.dK []) := by rw [eA3, upd_ne (Ne.symm npo), upd_ne not']; exact a2o
      have a3s : Same h0 A3 := by rw [eA3]; exact Same.mut (Same.new a2s ht) hp0
      have ht0 : h0 t = none := L2.Same.free a2s ht
      rw [← eA3]
      refine fun g hg => ?_
      have npg : p ≠ g := ne_of_none a3p hg
      have nog : o ≠ g := ne_of_none a3o hg
      have ntg : t ≠ g := ne_of_none a3t hg
      refine ⟨_, rfl, p, _, dx, _, rfl, by rw [upd_ne npg]; exact a3p, T.clS, T.aS_greatest, by show 3 < 1000; decide, ?_⟩
      rw [sh_put]
      refine kk o t g _ ho0 ht0 (L2.Same.free a3s hg) (Same.mut (Same.new a3s hg) hp0) upd_same ?_ ?_ ?_ nog
      · rw [upd_ne (Ne.symm npo), upd_ne nog]; exact a3o
      · rw [upd_ne (Ne.symm npt), upd_ne ntg]; exact a3t
      · rw [upd_ne (Ne.symm npg)]; exact upd_same
    rcases kind with ⟨rfl, rfl⟩ | ⟨bs, rfl, kb, nm⟩
    · refine ⟨_, pss_cons (ps_fld (pv 0) (pv 1) rfl)
      (pss_cons (ps_fld (pv 0) pe_dnewK rfl)
      (pss_cons (ps_fld (pv 0) pe_tnew rfl)
      (pss_cons (ps_fld (pv 0) pe_dnewK rfl)
      (pss_one (ps_if (pt_cmp (pc_notN (pv 1)))
        (pss_one (ps_for PassesOwn.never rfl (pi_list pe_never) (pg_name (i := 2) sc_S_init.nd rfl (Or.inl rfl))
          (pss_one (ps_expr (pe_mt T.clS T.mS_note_down GS_note_down (hr.mono (by decide)) pass0 (pv 0) (pa_cons (pv 2) (pa_cons pe_never pa_nil)))))))
        (pss_nil)))))), ?_⟩
      refine main _ _ fun o t g A4 ho ht hg hs hA1 hA2 hA3 hA4 nog => ?_
      refine ⟨_, rfl, _, rfl, ?_⟩
      have C : ShCore P w (He.ga K "Shelf") A4 p .non o t g [] [] := ⟨⟨dx, hA1⟩, ⟨[], hA2, .nil⟩, ⟨[], ⟨hA3, fun _ h => (nomatch h)⟩, fun _ h => (nomatch h), Nat.zero_le _⟩, ⟨[], hA4, GrOk.nil _, Nat.zero_le _⟩, nog, StOk.nil, NmOk.nil _⟩
      exact k o t g A4 ho ht hg hs ⟨_, _, _, rfl, C, .inl ⟨rfl, rfl⟩⟩ (fun _ => ⟨_, _, _, rfl, C, .inl ⟨rfl, rfl⟩⟩)
    · obtain ⟨bb, kB⟩ := stB_of kb
      have W := api0 (P := P) (w := w) (base := base) T bb
      obtain ⟨dxb, fsb, i1, i2, i3, i4⟩ := st_ins kB
      have ok := kb.ok
      refine ⟨_, pss_cons (ps_fld (pv 0) (pv 1) rfl)
      (pss_cons (ps_fld (pv 0) pe_dnewK rfl)
      (pss_cons (ps_fld (pv 0) pe_tnew rfl)
      (pss_cons (ps_fld (pv 0) pe_dnewK rfl)
      (pss_one (ps_if (pt_cmp (pc_notN (pv 1)))
        (pss_one (ps_for PassesOwn.never rfl (pi_list (pe_mt0 W.cl W.m_names W.G_names (hr.mono (by decide)) pass0 (pv 1))) (pg_name (i := 2) sc_S_init.nd rfl (Or.inl rfl))
          (pss_one (ps_expr (pe_mt T.clS T.mS_note_down GS_note_down (hr.mono (by decide)) pass0 (pv 0) (pa_cons (pv 2) (pa_cons (pe_mt W.cl W.m_thing W.G_thing (hr.mono (by decide)) passL (pv 1) (pa_cons (pv 2) pa_nil)) pa_nil)))))))
        (pss_nil)))))), ?_⟩
      refine main _ _ fun o t g A4 ho ht hg hs hA1 hA2 hA3 hA4 nog => ?_
      refine ⟨_, rfl, _, rfl, ?_⟩
      have ntg : t ≠ g := fun z => by rw [z, hA4] at hA3; cases hA3
      have nto : t ≠ o := fun z => by rw [z, hA2] at hA3; cases hA3
      refine ⟨_, rfl, bs, dxb, fsb, rfl, hs _ _ i1, i4, bs, Lb, rfl, kB.mono hs, fun l A5 hl s5 hl5 => ?_⟩
      have sz := ok.sz
      refine ⟨l, rfl, ⟨_, SqL.of hl5⟩, for_it walk_list (fun i σ H' => ∃ v2, σ = [some (.ref p), some (.ref bs), v2] ∧ Same h0 H' ∧ H' p = some (.ins (He.ga K "Shelf") dx (shF (.ref bs) o t g)) ∧ H' o = some (.dK []) ∧ H' l = some (.lst ((nms Lb).map V.str)) ∧
          ∃ kvs gks, TdAt P w H' t kvs ∧ TdOk kvs Lb ∧ kvs.length ≤ i ∧ H' g = some (.dK gks) ∧ GrOk gks Lb.length (Lb.take i) ∧ gks.length ≤ i)
        ⟨none, rfl, Same.trans hs s5, s5 _ _ hA1, s5 _ _ hA2, hl5, [], [], ⟨s5 _ _ hA3, fun _ h => (nomatch h)⟩, fun _ h => (nomatch h), Nat.zero_le _, s5 _ _ hA4, GrOk.nil _, Nat.zero_le _⟩ (fun _ _ _ _ ⟨_, _, _, _, _, q, _⟩ => SqL.of q) ?_ ?_⟩
      · rintro i x σ H2 H3 hi ⟨v2, rfl, hs2, hp2, ho2, hl2, kvs, gks, td, tk, lk, hg2, gr, lg⟩ ⟨rfl, hx⟩
        obtain ⟨y, hz, rfl⟩ := map_get hx
        obtain ⟨⟨y', th⟩, hzt, ez⟩ := map_get hz
        subst ez
        have hmem : (y, th) ∈ Lb := List.mem_of_getElem? hzt
        have ii := (List.getElem?_eq_some_iff.mp hzt).1
        obtain ⟨hd, kk, en, hok, hkk⟩ := nm _ hmem
        have en' : y = nameOf hd kk := en
        obtain ⟨z, hz2⟩ := gr_get gr hd
        refine ⟨_, rfl, p, dx, _, rfl, hp2, sh_no, _, rfl, _, rfl, bs, dxb, fsb, rfl, hs2 _ _ i1, i3, _, rfl, bs, _, Lb, rfl, kB.mono hs2, trivial, .inl ⟨y, th, hmem, rfl, fun a H4 s4 ta => ?_⟩⟩
        have td4 : TdAt P w H4 t kvs := ⟨s4 _ _ td.1, fun x hx => (td.2 x hx).mono (tups_of s4)⟩
        refine ⟨p, a, dx, o, t, g, _, hd, kk, z, th, kvs, gks, by rw [← en']; rfl, s4 _ _ hp2, td4, by omega, s4 _ _ hg2, by omega, hok, by omega, ta, hz2, fun H5 b5 td5 hg5 => ?_⟩
        have nS : ∀ {c : Addr} {o : HO}, H4 c = some o → (∀ φ, o ≠ .ext φ) → (∀ k, o ≠ .dK k) → H5 c = some o := fun hc n1 n2 => b5 _ _ (by
          rintro (rfl | rfl)
          · exact n1 _ (by have := td4.1; rw [hc] at this; exact Option.some.inj this)
          · exact n2 _ (by have := s4 _ _ hg2; rw [hc] at this; exact Option.some.inj this)) hc
        refine ⟨_, rfl, same_but (Same.trans hs2 s4) b5 (by rintro c (rfl | rfl); exact ht; exact hg), nS (s4 _ _ hp2) (fun _ z => nomatch z) (fun _ z => nomatch z), b5 _ _ (by rintro (q | q); exact nto q.symm; exact nog q) (s4 _ _ ho2), nS (s4 _ _ hl2) (fun _ z => nomatch z) (fun _ z => nomatch z),
          _, _, td5, td_step tk (fun _ h => h) (by rw [← en']; exact hmem), ?_, hg5, ?_, ?_⟩
        · have := tdPut_len kvs th a (nameOf hd kk); omega
        · rw [take_snoc hzt, en']
          exact gr_step gr hok hkk hz2
        · have := length_putK gks (Sum.inr hd) (V.int ((max kk z : Nat) : Int)); omega
      · rintro σ H2 ⟨v2, rfl, hs2, hp2, ho2, hl2, kvs, gks, td, tk, lk, hg2, gr, lg⟩
        have e1 : ((nms Lb).map V.str).length = Lb.length := by unfold nms; rw [List.length_map, List.length_map]
        rw [e1] at lk gr lg
        rw [List.take_length] at gr
        have en : Lb ++ [] = Lb := List.append_nil Lb
        have C : ShCore P w (He.ga K "Shelf") H2 p (.ref bs) o t g Lb [] := ⟨⟨dx, hp2⟩, ⟨[], ho2, .nil⟩, ⟨kvs, td, by rw [en]; exact tk, by rw [en]; omega⟩, ⟨gks, hg2, by rw [en]; exact gr, by rw [en]; exact lg⟩, nog, by rw [en]; exact ok, by rw [en]; exact nm⟩
        exact k o t g H2 ho ht hg hs2 ⟨_, Lb, [], en.symm, C, .inr ⟨0, bs, h0, rfl, rfl, kb, hs2, ho, ht, hg⟩⟩ (fun z => nomatch z)
end
end An

namespace An
open PySem PySem.Spec L2
/-- the names within are there, of the right kind -/
def KidsOk (L : Cont) : Thing → Prop
  | .leaf _ => True
  | .tree rows => ∀ r ∈ rows, ∃ t, (r.2, t) ∈ L ∧ (lcode t = 76 ∨ lcode t = 84)
  | .note tr ps _ => (∃ t, (tr, t) ∈ L ∧ lcode t = 84) ∧ ∀ q ∈ ps, ∃ t, (q, t) ∈ L ∧ lcode t = 78
theorem KidsOk.mono {L L' : Cont} (s : ∀ e ∈ L, e ∈ L') {t : Thing} (k : KidsOk L t) : KidsOk L' t := by
  cases t with
  | leaf ls => trivial
  | tree rows => exact fun r hr => let ⟨t, a, b⟩ := k r hr; ⟨t, s _ a, b⟩
  | note tr ps w => exact ⟨let ⟨t, a, b⟩ := k.1; ⟨t, s _ a, b⟩, fun q hq => let ⟨t, a, b⟩ := k.2 q hq; ⟨t, s _ a, b⟩⟩
theorem KidsOk.names {L : Cont} {t : Thing} (k : KidsOk L t) : ∀ c ∈ t.names, c ∈ nms L := by
  intro c hc
  cases t with
  | leaf ls => cases hc
  | tree rows =>
    obtain ⟨r, hr, rfl⟩ := List.mem_map.mp hc
    obtain ⟨t, a, _⟩ := k r hr
    exact nms_mem a
  | note tr ps w =>
    rcases List.mem_cons.mp hc with e | q
    · obtain ⟨t, a, _⟩ := k.1
      rw [e]; exact nms_mem a
    · obtain ⟨t, a, _⟩ := k.2 c q
      exact nms_mem a
/-- the letter of a name -/
theorem nm_first {b : Nat} {L : Cont} (N : NmOk b L) {z : Str} {t : Thing} (h : (z, t) ∈ L) : z.cps.toList[0]? = some (lcode t) := by
  obtain ⟨hd, k, e, o, _⟩ := N _ h
  have e' : z = nameOf hd k := e
  rw [e']; exact name_first o
theorem nm_len {b : Nat} {L : Cont} (N : NmOk b L) (hb : b ≤ 100000) {z : Str} {t : Thing} (h : (z, t) ∈ L) : z.length ≤ 20 := by
  obtain ⟨hd, k, e, o, l⟩ := N _ h
  have e' : z = nameOf hd k := e
  rw [e']; exact name_len o (by omega)
section
variable {P : Program} {w : World} {K : PySem.W.Frag} {mg : Str → Option Value} {base : Heap}
/-! ### Shelf.need_names -/
def spNeedNames (P : Program) (w : World) (K : PySem.W.Frag) : Sp := fun vs H Q _ => ∃ (p a o t g : Addr) (L : Cont) (th : Thing), vs = [.ref p, .ref a] ∧ ShAt P w (He.ga K "Pack") (He.ga K "Shelf") 1 H p o t g L ∧ NmOk L.length L ∧ ThAt H a th ∧ ThOk th ∧ KidsOk L th ∧ ∀ H', Same H H' → Q .non H'
theorem sc_S_need_names : FnScope ["self", "thing", "at", "name", "forms"] ["self", "thing"] (defScope s_S_need_names) := ⟨rfl, rfl, rfl, by decide +kernel, rfl, by decide +kernel, by decide +kernel⟩
theorem ok_S_need_names (T : Tx K mg) : Gf P w K mg base CX0 15 (He.ma K (He.ga K "Shelf") "need_names") ["self", "thing"] (spNeedNames P w K) := by
  have GS_has : Gf P w K mg base CX0 14 _ _ (spHas P w K 1 false) := (api1 T false).G_has
  have G_names_in : Gf P w K mg base CX0 1 _ _ spNamesIn := ok_names_in T
  refine gf0_of T.d_S_need_names sc_S_need_names (fun _ _ _ _ _ _ us hl => match us, hl with | [_, _], _ => rfl) (fun vs H Q E h => ?_) (fun cdv A outer s H vs Q E hr h => ?_)
  · obtain ⟨p, a, o, t, g, L, th, rfl, _⟩ := h; rfl
  · obtain ⟨p, a, o, t, g, L, th, rfl, sh, nm, ta, tok, kd, k⟩ := h
    refine ⟨_, pss_one (ps_for PassesOwn.never rfl (pi_enum rfl T.n_enumerate (pa_cons (pe_fn G_names_in (hr.mono (by decide)) T.g_names_in pass0 (pa_cons (pv 1) pa_nil)) pa_nil)) (pg_tup rfl (pgs_cons (pg_name (i := 2) sc_S_need_names.nd rfl (Or.inl rfl)) (pgs_cons (pg_name (i := 3) sc_S_need_names.nd rfl (Or.inl rfl)) pgs_nil)))
        (pss_cons (ps_set (i := 4) sc_S_need_names.nd rfl (Or.inl rfl) pe_str)
        (pss_cons (ps_if (pt_cmpR op_eq (pe_ix (r := rIxT K) ix_tup (pv 1) pe_int (fun _ _ => rfl)) pe_str (nomark _))
          (pss_one (ps_set (i := 4) sc_S_need_names.nd rfl (Or.inl rfl) (pe_ifExp (pt_cmpR op_eq (pv 2) pe_int (nomark _)) pe_str pe_str)))
          (pss_nil))
        (pss_one (ps_if (PW.pt (pw_or (pt_not (pt_val (pe_mt T.clS T.mS_has GS_has (hr.mono (by decide)) pass0 (pv 0) (pa_cons (pv 3) pa_nil)))) (pw_or1 (pt_cmpR op_notIn_sign (pe_ix ix_str (pv 3) pe_int (fun _ _ => rfl)) (pv 4) (by rfl)))))
          (pss_one (ps_never))
          (pss_nil)))))), ?_⟩
    have sb : StB P w (He.ga K "Pack") (He.ga K "Shelf") 1 false H p L := ⟨o, t, g, sh⟩
    have sz := sb.ok.sz
    obtain ⟨dx, fs, i1, i2, _⟩ := st_ins sb
    refine ⟨_, rfl, a, th, rfl, ta, tok, fun l H1 hl s1 hl1 => ?_⟩
    refine ⟨l, _, rfl, SqL.of hl1, for_it walk_enum (fun i σ H' => ∃ v2 v3 v4, σ = [some (.ref p), some (.ref a), v2, v3, v4] ∧ Same H H' ∧ H' l = some (.lst (th.names.map V.str))) ⟨none, none, none, rfl, s1, hl1⟩ (fun _ _ _ _ ⟨_, _, _, _, _, q⟩ => SqL.of q) ?_ ?_⟩
    · rintro i x σ H2 H3 hi ⟨v2, v3, v4, rfl, hs, hl2⟩ ⟨u, x1, x2, rfl, hu, rfl, e1, e2⟩
      cases e1
      obtain ⟨c, hc, rfl⟩ := map_get e2
      have s3 := same_new (o := .tup [V.int ((i : Nat) : Int), V.str c]) hu
      have hs3 := Same.trans hs s3
      refine ⟨u, _, rfl, SqT.of upd_same, rfl, _, _, rfl, _, _, rfl, rfl, ?_⟩
      have hcm : c ∈ th.names := List.mem_of_getElem? hc
      have fin : ∀ v4, ∃ v2 v3 v4', ([some (.ref p), some (.ref a), some (.int ((i : Nat) : Int)), some (.str c), v4] : L2.St) = [some (.ref p), some (.ref a), v2, v3, v4'] ∧ Same H (upd H2 u (.tup [V.int ((i : Nat) : Int), V.str c])) ∧ upd H2 u (.tup [V.int ((i : Nat) : Int), V.str c]) l = some (.lst (th.names.map V.str)) := fun v4 => ⟨_, _, _, rfl, hs3, s3 _ _ hl2⟩
      have head : ∀ (t2 : Thing), (c, t2) ∈ L → hasV (nms L) (.str c) = true ∧ c.length ≤ sizeLine ∧ c.cps.toList[0]? = some (lcode t2) := fun t2 m1 => ⟨hasV_str (nms_mem m1), le_line (by have := nm_len nm (by omega) m1; omega), nm_first nm m1⟩
      cases th with
      | leaf ls => cases hcm
      | tree rows =>
        obtain ⟨q, as, ta1, _⟩ := id ta
        refine ⟨_, rfl, a, _, _, _, rfl, rfl, SqT.of (hs3 _ _ ta1), rfl, rfl, _, rfl, ?_⟩
        refine iten (ne_s (by decide +kernel)) ?_
        obtain ⟨r, hr2, rfl⟩ := List.mem_map.mp hcm
        obtain ⟨t2, m1, m2⟩ := kd r hr2
        obtain ⟨f1, f2, f3⟩ := head t2 m1
        refine ⟨_, rfl, p, dx, fs, rfl, hs3 _ _ i1, i2, _, rfl, p, _, L, rfl, sb.mono hs3, trivial, _, rfl, ?_⟩
        rw [f1]
        refine ⟨_, rfl, _, _, _, rfl, rfl, f2, atI_nat (j := 0) f3, _, rfl, _, _, rfl, rfl, _, rfl, ?_⟩
        rw [decide_eq_true (show lcode t2 ∈ ("LT" : Str).cps.toList from by rcases m2 with e | e <;> rw [e] <;> decide +kernel)]
        exact fin _
      | note tr ps wn =>
        obtain ⟨q, ta1, _⟩ := id ta
        refine ⟨_, rfl, a, _, _, _, rfl, rfl, SqT.of (hs3 _ _ ta1), rfl, rfl, _, rfl, ?_⟩
        refine itep (decide_eq_true rfl) ?_
        refine ⟨_, rfl, rfl, _, rfl, ?_⟩
        cases i with
        | zero =>
          have e0 : c = tr := by simpa [Thing.names] using hc.symm
          obtain ⟨t2, m1, m2⟩ := kd.1
          refine itep (decide_eq_true rfl) ?_
          obtain ⟨f1, f2, f3⟩ := head t2 (by rw [e0]; exact m1)
          refine ⟨_, rfl, p, dx, fs, rfl, hs3 _ _ i1, i2, _, rfl, p, _, L, rfl, sb.mono hs3, trivial, _, rfl, ?_⟩
          rw [f1]
          refine ⟨_, rfl, _, _, _, rfl, rfl, f2, atI_nat (j := 0) f3, _, rfl, _, _, rfl, rfl, _, rfl, ?_⟩
          rw [decide_eq_true (show lcode t2 ∈ ("T" : Str).cps.toList from by rw [m2]; decide +kernel)]
          exact fin _
        | succ j =>
          have e0 : c ∈ ps := by
            have : ps[j]? = some c := by simpa [Thing.names] using hc
            exact List.mem_of_getElem? this
          obtain ⟨t2, m1, m2⟩ := kd.2 c e0
          refine iten (ne_i (by omega)) ?_
          obtain ⟨f1, f2, f3⟩ := head t2 m1
          refine ⟨_, rfl, p, dx, fs, rfl, hs3 _ _ i1, i2, _, rfl, p, _, L, rfl, sb.mono hs3, trivial, _, rfl, ?_⟩
          rw [f1]
          refine ⟨_, rfl, _, _, _, rfl, rfl, f2, atI_nat (j := 0) f3, _, rfl, _, _, rfl, rfl, _, rfl, ?_⟩
          rw [decide_eq_true (show lcode t2 ∈ ("N" : Str).cps.toList from by rw [m2]; decide +kernel)]
          exact fin _
    · rintro σ H2 ⟨v2, v3, v4, rfl, hs, _⟩
      exact k H2 hs
end
end An

namespace An
open PySem PySem.Spec L2
/-- what a put does to the contents -/
def PutTo (th : Thing) (nm : Str) (L L' : Cont) : Prop := (L' = L ∨ L' = L ++ [(nm, th)]) ∧ (nm, th) ∈ L'
def Sh3 (o t g : Addr) : Addr → Prop := fun c => c = o ∨ c = t ∨ c = g
theorem ShAt.nm {P : Program} {w : World} {CP CS : Addr} {n : Nat} {h : Hp} {p o t g : Addr} {L : Cont} (k : ShAt P w CP CS n h p o t g L) : NmOk L.length L := by
  obtain ⟨vb, Lb, Lo, rfl, c, _⟩ := k
  exact c.nm
theorem sh_tups {P : Program} {w : World} {CP CS : Addr} {n : Nat} {h h' : Hp} {p o t g : Addr} {L : Cont} (k : ShAt P w CP CS n h p o t g L) (b : But (Sh3 o t g) h h') : Tups h h' := by
  obtain ⟨vb, Lb, Lo, rfl, c, _⟩ := k
  obtain ⟨ow, o1, _⟩ := c.own
  obtain ⟨kvs, t1, _⟩ := c.told
  obtain ⟨gks, g1, _⟩ := c.gr
  refine tups_but b ?_
  rintro c xs (rfl | rfl | rfl) e
  · rw [o1] at e; cases e
  · have := t1.1; rw [this] at e; cases e
  · rw [g1] at e; cases e
/-- a shelf that grew by one -/
theorem sh_grew {P : Program} {w : World} {CP CS : Addr} {n : Nat} {h h' : Hp} {p o t g a : Addr} {L : Cont} {nm : Str} {th : Thing} (k : ShAt P w CP CS n h p o t g L) (b : But (Sh3 o t g) h h')
    (ho : ∀ kvs, h o = some (.dK kvs) → h' o = some (.dK (putK kvs (Sum.inr nm) (.ref a)))) (ta : ThAt h' a th) (nn : nm ∉ nms L)
    (ht : ∃ kvs, TdAt P w h' t kvs ∧ TdOk kvs (L ++ [(nm, th)]) ∧ kvs.length ≤ 2 * (L ++ [(nm, th)]).length) (hg : ∃ gks, h' g = some (.dK gks) ∧ GrOk gks (L ++ [(nm, th)]).length (L ++ [(nm, th)]) ∧ gks.length ≤ (L ++ [(nm, th)]).length)
    (ok : StOk (L ++ [(nm, th)])) (nk : NmOk (L ++ [(nm, th)]).length (L ++ [(nm, th)])) : ShAt P w CP CS n h' p o t g (L ++ [(nm, th)]) := by
  have tp := sh_tups k b
  obtain ⟨vb, Lb, Lo, rfl, c, kind⟩ := k
  obtain ⟨⟨dx, i⟩, ⟨ow, o1, o2⟩, ⟨kvs, t1, _⟩, ⟨gks, g1, _⟩, ng, _, _⟩ := c
  have nno : nm ∉ nms Lo := fun q => nn (by rw [nms_append]; exact List.mem_append_right _ q)
  have pne : ¬ Sh3 o t g p := by
    rintro (rfl | rfl | rfl)
    · rw [o1] at i; cases i
    · have := t1.1; rw [i] at this; cases this
    · rw [g1] at i; cases i
  refine ⟨vb, Lb, Lo ++ [(nm, th)], (List.append_assoc ..), ⟨⟨dx, b _ _ pne i⟩, ⟨ow ++ [(nm, a)], ?_, paired_snoc (OwnAt.mono tp o2) ⟨rfl, ta⟩⟩, ?_, ?_, ng, ?_, ?_⟩, ?_⟩
  · rw [ho _ o1, ownV_put (own_none o2 nno)]
  · rw [← List.append_assoc]; exact ht
  · rw [← List.append_assoc]; exact hg
  · rw [← List.append_assoc]; exact ok
  · rw [← List.append_assoc]; exact nk
  · rcases kind with ⟨e1, e2⟩ | ⟨m, bs, hb, e1, e2, e3, e4, e5, e6, e7⟩
    · exact .inl ⟨e1, e2⟩
    · exact .inr ⟨m, bs, hb, e1, e2, e3, same_but e4 b (by rintro c (rfl | rfl | rfl) <;> assumption), e5, e6, e7⟩
/-! ### the shelf's own part of the heap -/
open Classical in
noncomputable def fil (hs H H' : Hp) : Hp := fun c => if hs c = none ∧ H c ≠ none then none else H' c
theorem fil_some {hs H H' : Hp} {c : Addr} {u : HO} (h : hs c = some u) : fil hs H H' c = H' c := by
  unfold fil; rw [if_neg (fun z => by rw [z.1] at h; cases h)]
theorem fil_sub {hs H H' : Hp} : Same (fil hs H H') H' := fun c u e => by
  unfold fil at e
  split at e
  · cases e
  · exact e
theorem fil_out {hs H H' : Hp} {c : Addr} (h : hs c = none) (g : H c ≠ none) : fil hs H H' c = none := by
  unfold fil; rw [if_pos ⟨h, g⟩]
theorem fil_tup {hs H H' : Hp} {S : Addr → Prop} (tp : Tups H hs) (b : But S H H') (n : ∀ c, S c → hs c ≠ none) : Tups H' (fil hs H H') := fun c xs e => by
  unfold fil
  by_cases q : hs c = none ∧ H c ≠ none
  · exfalso
    obtain ⟨q1, q2⟩ := q
    cases u : H c with
    | none => exact q2 u
    | some v =>
      have := b c v (fun z => n c z q1) u
      rw [e] at this
      cases this
      rw [tp _ _ u] at q1; cases q1
  · rw [if_neg q]; exact e
theorem fil_but {hs H H' : Hp} {S : Addr → Prop} (s : Same hs H) (b : But S H H') : But S hs (fil hs H H') := fun c u n e => by rw [fil_some e]; exact b c u n (s c u e)
def Lf5 : Thing → Prop
  | .leaf ls => ∀ l ∈ ls, l.length ≠ 5
  | _ => True
/-- what puts do -/
structure Grew (G : Thing → Prop) (P : Program) (w : World) (CP CS p o t g : Addr) (hs H : Hp) (L : Cont) (hs' H' : Hp) (L' : Cont) (c : Nat) : Prop where
  sub : Same hs' H'
  tup : Tups H' hs'
  out : ∀ x, hs x = none → H x ≠ none → hs' x = none
  dom : ∀ x, H x ≠ none → H' x ≠ none
  but : But (Sh3 o t g) H H'
  sh : ∀ n, ShAt P w CP CS n hs p o t g L → ShAt P w CP CS n hs' p o t g L'
  ext : ∃ X, L' = L ++ X ∧ X.length ≤ c ∧ ∀ e ∈ X, G e.2
theorem sh_in {P : Program} {w : World} {CP CS : Addr} {n : Nat} {h : Hp} {p o t g : Addr} {L : Cont} (k : ShAt P w CP CS n h p o t g L) : ∀ c, Sh3 o t g c → h c ≠ none := by
  obtain ⟨vb, Lb, Lo, rfl, c, _⟩ := k
  obtain ⟨ow, o1, _⟩ := c.own
  obtain ⟨kvs, t1, _⟩ := c.told
  obtain ⟨gks, g1, _⟩ := c.gr
  rintro c (rfl | rfl | rfl) e
  · rw [o1] at e; cases e
  · have := t1.1; rw [this] at e; cases e
  · rw [g1] at e; cases e
section
variable {G F : Thing → Prop} {P : Program} {w : World} {CP CS p o t g : Addr} {hs H hs' H' hs2 H2 : Hp} {L L' L2 : Cont} {c d : Nat}
theorem Grew.trans (a : Grew G P w CP CS p o t g hs H L hs' H' L' c) (b : Grew G P w CP CS p o t g hs' H' L' hs2 H2 L2 d) : Grew G P w CP CS p o t g hs H L hs2 H2 L2 (c + d) := by
  refine ⟨b.sub, b.tup, fun x h1 h2 => b.out x (a.out x h1 h2) (a.dom x h2), fun x h => b.dom x (a.dom x h), But.trans a.but b.but, fun n k => b.sh n (a.sh n k), ?_⟩
  obtain ⟨X, e1, l1, g1⟩ := a.ext
  obtain ⟨Y, e2, l2, g2⟩ := b.ext
  exact ⟨X ++ Y, by rw [e2, e1, List.append_assoc], by rw [List.length_append]; omega, fun e he => (List.mem_append.mp he).elim (g1 e) (g2 e)⟩
theorem Grew.imp (a : Grew G P w CP CS p o t g hs H L hs' H' L' c) (h : ∀ t, G t → F t) : Grew F P w CP CS p o t g hs H L hs' H' L' c :=
  ⟨a.sub, a.tup, a.out, a.dom, a.but, a.sh, let ⟨X, e, l, q⟩ := a.ext; ⟨X, e, l, fun x hx => h _ (q x hx)⟩⟩
theorem Grew.le (a : Grew G P w CP CS p o t g hs H L hs' H' L' c) (h : c ≤ d) : Grew G P w CP CS p o t g hs H L hs' H' L' d :=
  ⟨a.sub, a.tup, a.out, a.dom, a.but, a.sh, let ⟨X, e, l, q⟩ := a.ext; ⟨X, e, Nat.le_trans l h, q⟩⟩
theorem Grew.same (s : Same hs H) (tp : Tups H hs) (k : Same H H') : Grew G P w CP CS p o t g hs H L (fil hs H H') H' L 0 := by
  refine ⟨fil_sub, fil_tup (S := fun _ => False) tp (But.of k) (fun _ z => z.elim), fun x => fil_out, fun x h q => ?_, But.of k, fun n q => q.mono fun c u e => ?_, [], by simp, Nat.le_refl _, fun _ h => (nomatch h)⟩
  · cases u : H x with
    | none => exact h u
    | some v => rw [k _ _ u] at q; cases q
  · rw [fil_some e]; exact k _ _ (s _ _ e)
theorem Grew.mem (a : Grew G P w CP CS p o t g hs H L hs' H' L' c) : ∀ e ∈ L, e ∈ L' := fun e h => by
  obtain ⟨X, e1, _, _⟩ := a.ext
  rw [e1]; exact List.mem_append_left _ h
theorem Grew.len (a : Grew G P w CP CS p o t g hs H L hs' H' L' c) : L'.length ≤ L.length + c := by
  obtain ⟨X, e1, l, _⟩ := a.ext
  rw [e1, List.length_append]; omega
theorem Grew.new (a : Grew G P w CP CS p o t g hs H L hs' H' L' c) : ∀ e ∈ L', e ∈ L ∨ G e.2 := fun e h => by
  obtain ⟨X, e1, _, q⟩ := a.ext
  rw [e1] at h
  exact (List.mem_append.mp h).imp id (q e)
theorem Grew.tups (a : Grew G P w CP CS p o t g hs H L hs' H' L' c) (s : Same hs H) {n : Nat} (k : ShAt P w CP CS n hs p o t g L) : Tups H H' := by
  have k2 := k.mono s
  exact sh_tups k2 a.but
end
theorem log_nat {n : Nat} (h : n < 100000) : ((n : Nat) : Int).natAbs.log2 < 1920 := log_small (by omega) (by omega)
section
variable {P : Program} {w : World} {K : PySem.W.Frag} {mg : Str → Option Value} {base : Heap}
/-! ### Shelf.put -/
def spPut (P : Program) (w : World) (K : PySem.W.Frag) : Sp := fun vs H Q _ => ∃ (p a o t g : Addr) (L : Cont) (th : Thing) (hs : Hp), vs = [.ref p, .ref a] ∧ Same hs H ∧ Tups H hs ∧ ShAt P w (He.ga K "Pack") (He.ga K "Shelf") 1 hs p o t g L ∧ ThAt H a th ∧ ThOk th ∧ KidsOk L th ∧ L.length < 1000 ∧
  ∀ nm hs' H' L', Grew (fun t => t = th) P w (He.ga K "Pack") (He.ga K "Shelf") p o t g hs H L hs' H' L' 1 → (nm, th) ∈ L' → Q (.str nm) H'
theorem sc_S_put : FnScope ["self", "thing", "head", "number", "name"] ["self", "thing"] (defScope s_S_put) := ⟨rfl, rfl, rfl, by decide +kernel, rfl, by decide +kernel, by decide +kernel⟩
theorem ok_S_put (T : Tx K mg) : Gf P w K mg base CX0 16 (He.ma K (He.ga K "Shelf") "put") ["self", "thing"] (spPut P w K) := by
  have GS_note_down : Gf P w K mg base CX0 1 _ _ (spNote P w K) := ok_S_note_down T
  have GS_need_names : Gf P w K mg base CX0 15 _ _ (spNeedNames P w K) := ok_S_need_names T
  have G_need_thing : Gf P w K mg base CX0 3 _ _ spNeed := ok_need_thing T
  have G_letter_of : Gf P w K mg base CX0 1 _ _ spLetter := ok_letter_of T
  have G_digest : Gf P w K mg base CX0 3 _ _ spDigest := ok_digest T
  refine gf0_of T.d_S_put sc_S_put (fun _ _ _ _ _ _ us hl => match us, hl with | [_, _], _ => rfl) (fun vs H Q E h => ?_) (fun cdv A outer s H vs Q E hr h => ?_)
  · obtain ⟨p, a, o, t, g, L, th, hs, rfl, _⟩ := h; rfl
  · obtain ⟨p, a, o, t, g, L, th, hs, rfl, s0, tp0, sh0, ta, tok, kd, lL, k⟩ := h
    have sh := sh0.mono s0
    refine ⟨_, pss_cons (ps_expr (pe_fn G_need_thing (hr.mono (by decide)) T.g_need_thing pass0 (pa_cons (pv 1) pa_nil)))
      (pss_cons (ps_expr (pe_mt T.clS T.mS_need_names GS_need_names (hr.mono (by decide)) pass0 (pv 0) (pa_cons (pv 1) pa_nil)))
      (pss_cons (ps_if (pt_cmp (pc_tin hr.units (pv 1) (pe_fld (pv 0) rfl)) (by rfl))
        (pss_one (ps_ret (pe_tget hr.units (pe_fld (pv 0) rfl) (pv 1) (fun _ _ => rfl))))
        (pss_nil))
      (pss_cons (ps_set (i := 2) sc_S_put.nd rfl (Or.inl rfl) (pe_op op_add_str (pe_fn G_letter_of (hr.mono (by decide)) T.g_letter_of pass0 (pa_cons (pv 1) pa_nil)) (pe_callTy call_str_int rfl T.n_str (by decide +kernel) (pa_cons (pe_fn G_digest (hr.mono (by decide)) T.g_digest pass0 (pa_cons (pv 1) pa_nil)) pa_nil))))
      (pss_cons (ps_set (i := 3) sc_S_put.nd rfl (Or.inl rfl) pe_int)
      (pss_cons (ps_if (pt_cmp (pc_din (hu_of hr) (pv 2) (pe_fld (pv 0) rfl)) (by rfl))
        (pss_one (ps_set (i := 3) sc_S_put.nd rfl (Or.inl rfl) (pe_op op_add (pe_dget (hu_of hr) (pe_fld (pv 0) rfl) (pv 2) (fun _ _ => rfl)) pe_int)))
        (pss_nil))
      (pss_cons (ps_set (i := 4) sc_S_put.nd rfl (Or.inl rfl) (pe_op op_add_str (pe_op op_add_str (pv 2) pe_str) (pe_callTy call_str_int rfl T.n_str (by decide +kernel) (pa_cons (pv 3) pa_nil))))
      (pss_cons (ps_dput (hu_of hr) (pe_fld (pv 0) rfl) (pv 4) (pv 1) rfl)
      (pss_cons (ps_expr (pe_mt T.clS T.mS_note_down GS_note_down (hr.mono (by decide)) pass0 (pv 0) (pa_cons (pv 4) (pa_cons (pv 1) pa_nil))))
      (pss_one (ps_ret (pv 4))))))))))), ?_⟩
    have nmL := sh.nm
    obtain ⟨vb, Lb, Lo, eL, C, kind⟩ := id sh
    subst eL
    obtain ⟨dx, hp⟩ := C.ins
    obtain ⟨ow, o1, o2⟩ := C.own
    obtain ⟨kvs, t1, tk, lk⟩ := C.told
    obtain ⟨gks, g1, gr, lg⟩ := C.gr
    have nog := C.nog
    refine ⟨_, rfl, a, th, rfl, ta, tok, fun H1 s1 => ?_⟩
    refine ⟨_, rfl, p, dx, _, rfl, s1 _ _ hp, sh_no, _, rfl, p, a, o, t, g, _, th, rfl, sh.mono s1, nmL, ta.mono (tups_of s1), tok, kd, fun H2 s2 => ?_⟩
    have s12 := Same.trans s1 s2
    have td2 : TdAt P w H2 t kvs := ⟨s12 _ _ t1.1, fun x hx => (t1.2 x hx).mono (tups_of s12)⟩
    have ta2 := ta.mono (tups_of s12)
    refine ⟨_, rfl, _, rfl, p, _, dx, _, _, rfl, s12 _ _ hp, T.clS, T.aS_told, sh_told, t, a, kvs, th, rfl, rfl, td2, ta2, _, rfl, ?_⟩
    cases tg : tdGet kvs th with
    | some z =>
      refine ⟨_, rfl, p, _, dx, _, _, rfl, s12 _ _ hp, T.clS, T.aS_told, sh_told, _, rfl, t, a, kvs, th, z, rfl, rfl, td2, ta2, tg, ?_⟩
      obtain ⟨a', hm⟩ := tdGet_mem tg
      exact k z _ H2 _ ((Grew.same s0 tp0 s12).le (Nat.zero_le _)) (tk _ hm)
    | none =>
      refine ⟨_, rfl, a, th, rfl, ta2, _, rfl, a, th, rfl, ta2, tok, fun d H3 s3 hd97 => ?_⟩
      have s123 := Same.trans s12 s3
      have ll := letter_len th
      have ln := num_len (n := d) (by omega)
      refine ⟨_, rfl, log_nat (by omega), _, _, rfl, rfl, le_line (by show _ + (Str.ofString (toString ((d : Nat) : Int))).length ≤ _; omega), ?_⟩
      obtain ⟨hd, ehd⟩ : ∃ hd, hd = letter th ++ num d := ⟨_, rfl⟩
      have hdok : HdOk th hd := ⟨d, hd97, ehd⟩
      change Ends.nx _ ([some (.ref p), some (.ref a), some (.str (letter th ++ num d)), none, none]) _
      rw [← ehd]
      refine ⟨_, rfl, _, rfl, p, _, dx, _, _, rfl, s123 _ _ hp, T.clS, T.aS_greatest, sh_great, g, _, rfl, DGet.k (k := Sum.inr hd) (s123 _ _ g1), _, rfl, ?_⟩
      cases gv : valV gks (Sum.inr hd) with
      | none =>
        obtain ⟨N, eN⟩ : ∃ N : Nat, ((0 : Nat) : Int) = ((N : Nat) : Int) := ⟨_, rfl⟩
        obtain ⟨z, ez⟩ : ∃ z : Nat, z = 0 := ⟨_, rfl⟩
        have hz : (valV gks (Sum.inr hd)).getD (.int 0) = .int ((z : Nat) : Int) := by rw [gv, ez]; rfl
        have hN : ∀ z' : Nat, valV gks (Sum.inr hd) = some (.int ((z' : Nat) : Int)) → N ≤ z' → False := fun z' q _ => by rw [gv] at q; cases q
        have hNb : N ≤ (Lb ++ Lo).length := by omega

        change Ends.nx _ ([some (.ref p), some (.ref a), some (.str hd), some (.int ((0 : Nat) : Int)), none]) _
        rw [eN]
        have fresh : nameOf hd N ∉ nms (Lb ++ Lo) := by
          intro m
          obtain ⟨t2, m2⟩ := mem_nms m
          obtain ⟨hd', k', e, ok', _⟩ := nmL _ m2
          have e' : nameOf hd N = nameOf hd' k' := e
          obtain ⟨c1, c2⟩ := name_inj hdok ok' e'
          obtain ⟨z', z1, z2⟩ := gr.1 _ m2 hd' k' e ok'
          rw [← c1] at z1
          exact hN z' z1 (by omega)
        have l1 := hd_len hdok
        have l2 := num_len (n := N) (by omega)
        have l3 : ("." : Str).length = 1 := by decide +kernel
        refine ⟨_, rfl, _, _, rfl, rfl, le_line (by omega), _, rfl, _, rfl, log_nat (by omega), _, _, rfl, rfl, le_line ?_, ?_⟩
        · rw [len_app]; show _ + (Str.ofString (toString ((N : Nat) : Int))).length ≤ _; omega
        have owl : (ownV ow).length < sizeLine := lt_line (by rw [ownV_len, Paired.length o2]; rw [List.length_append] at lL; omega)
        refine ⟨_, rfl, _, rfl, p, _, dx, _, _, rfl, s123 _ _ hp, T.clS, T.aS_own, sh_own, _, rfl, o, _, rfl, DPut.k (k := Sum.inr (nameOf hd N)) (s123 _ _ o1) owl, ?_⟩
        obtain ⟨H4, eH4⟩ : ∃ H4, H4 = upd H3 o (.dK (putK (ownV ow) (Sum.inr (nameOf hd N)) (.ref a))) := ⟨_, rfl⟩
        have nk4 : ∀ {c : Addr} {u : HO}, H3 c = some u → (∀ k, u ≠ .dK k) → H4 c = some u := fun hc n => by rw [eH4]; exact nodk (s123 _ _ o1) hc n
        have g4 : H4 g = some (.dK gks) := by rw [eH4, upd_ne (Ne.symm nog)]; exact s123 _ _ g1
        have tp4 : Tups H3 H4 := by rw [eH4]; exact tups_dk (s123 _ _ o1)
        have td4 : TdAt P w H4 t kvs := ⟨nk4 (s123 _ _ t1.1) (fun _ z => nomatch z), fun x hx => ((t1.2 x hx).mono (tups_of s123)).mono tp4⟩
        have ta4 : ThAt H4 a th := (ta.mono (tups_of s123)).mono tp4
        change Ends.nx _ _ (upd H3 o (.dK (putK (ownV ow) (Sum.inr (nameOf hd N)) (.ref a))))
        rw [← eH4]
        refine ⟨_, rfl, p, dx, _, rfl, nk4 (s123 _ _ hp) (fun _ z => nomatch z), sh_no, _, rfl, _, rfl, p, a, dx, o, t, g, _, hd, N, z, th, kvs, gks, rfl, nk4 (s123 _ _ hp) (fun _ z => nomatch z), td4, by omega, g4, by omega, hdok, by omega, ta4, hz, fun H5 b5 td5 hg5 => ?_⟩
        have bAll : But (Sh3 o t g) H H5 := by
          have b34 : But (Sh3 o t g) H H4 := by rw [eH4]; exact But.put (But.of s123) (.inl rfl)
          exact fun c u nc hc => b5 c u (by rintro (q | q); exact nc (.inr (.inl q)); exact nc (.inr (.inr q))) (b34 c u nc hc)
        have ok2 : StOk (Lb ++ Lo ++ [(nameOf hd N, th)]) := by
          refine ⟨?_, C.ok.kb.snoc kd.names, fun e he => ?_, ?_⟩
          · rw [nms_append]
            exact List.nodup_append.mpr ⟨C.ok.nd, List.nodup_cons.mpr ⟨fun h => (nomatch h), List.nodup_nil⟩, fun x hx y hy e => fresh (by rw [List.mem_singleton.mp hy] at e; rw [← show x = nameOf hd N from e]; exact hx)⟩
          · rcases List.mem_append.mp he with q | q
            · exact C.ok.th e q
            · rw [List.mem_singleton.mp q]; exact tok
          · rw [List.length_append]; show _ + 1 ≤ 1000; omega
        have tp5 : Tups H H5 := sh_tups sh bAll
        have lapp : (Lb ++ Lo ++ [(nameOf hd N, th)]).length = (Lb ++ Lo).length + 1 := by rw [List.length_append (bs := [(nameOf hd N, th)])]; rfl
        have sin := sh_in sh0
        have tp6 : Tups H5 (fil hs H H5) := fil_tup tp0 bAll sin
        have at5 : ∀ c, Sh3 o t g c → fil hs H H5 c = H5 c := fun c q => by
          cases u : hs c with
          | none => exact absurd u (sin c q)
          | some v => exact fil_some u
        have ho5 : H5 o = some (.dK (putK (ownV ow) (Sum.inr (nameOf hd N)) (.ref a))) := by
          refine b5 _ _ ?_ (by rw [eH4]; exact upd_same)
          rintro (q | q)
          · have := t1.1; rw [← q, o1] at this; cases this
          · exact nog q
        refine ⟨_, rfl, k (nameOf hd N) (fil hs H H5) H5 (Lb ++ Lo ++ [(nameOf hd N, th)]) ⟨fil_sub, tp6, fun x => fil_out, fun x hx q => ?_, bAll, fun n shn => ?_, [(nameOf hd N, th)], rfl, Nat.le_refl _, fun e he => by rw [List.mem_singleton.mp he]⟩ (List.mem_append_right _ (List.mem_singleton.mpr rfl))⟩
        · by_cases c3 : Sh3 o t g x
          · rcases c3 with rfl | rfl | rfl
            · rw [ho5] at q; cases q
            · have := td5.1; rw [q] at this; cases this
            · rw [hg5] at q; cases q
          · cases u : H x with
            | none => exact hx u
            | some v => rw [bAll _ _ c3 u] at q; cases q
        refine sh_grew (a := a) shn (fil_but s0 bAll) (fun kvs0 h0 => ?_) ((ta.mono tp5).mono tp6) fresh ⟨_, ⟨(at5 t (.inr (.inl rfl))).trans td5.1, fun x hx => (td5.2 x hx).mono tp6⟩, ?_, ?_⟩ ⟨_, (at5 g (.inr (.inr rfl))).trans hg5, ?_, ?_⟩ ok2 ?_
        · have h0' := s0 _ _ h0
          rw [o1] at h0'
          cases h0'
          exact (at5 o (.inl rfl)).trans ho5
        · exact td_step tk (fun e he => List.mem_append_left _ he) (List.mem_append_right _ (List.mem_singleton.mpr rfl))
        · have := tdPut_len kvs th a (nameOf hd N); rw [lapp]; omega
        · exact gr_step (gr_mono gr (by rw [lapp]; omega)) hdok (by rw [lapp]; omega) hz
        · have := length_putK gks (Sum.inr hd) (V.int ((max N z : Nat) : Int)); rw [lapp]; omega
        · rw [lapp]
          intro e he
          rcases List.mem_append.mp he with q | q
          · exact NmOk.mono nmL (Nat.le_succ _) e q
          · rw [List.mem_singleton.mp q]
            exact ⟨hd, N, rfl, hdok, by omega⟩
      | some v =>
        obtain ⟨z, e1, e2⟩ := gr.2 hd v gv
        subst e1
        obtain ⟨N, eN⟩ : ∃ N : Nat, N = z + 1 := ⟨_, rfl⟩
        have hz : (valV gks (Sum.inr hd)).getD (.int 0) = .int ((z : Nat) : Int) := by rw [gv]; rfl
        have hN : ∀ z' : Nat, valV gks (Sum.inr hd) = some (.int ((z' : Nat) : Int)) → N ≤ z' → False := fun z' q l => by
          rw [gv] at q
          have := V.int.inj (Option.some.inj q)
          omega
        have hNb : N ≤ (Lb ++ Lo).length := by omega
        have gd := DGet.k (k := Sum.inr hd) (s123 _ _ g1)
        rw [gv] at gd
        refine ⟨_, rfl, p, _, dx, _, _, rfl, s123 _ _ hp, T.clS, T.aS_greatest, sh_great, _, rfl, g, _, rfl, gd, _, _, rfl, rfl, ?_⟩
        have eN2 : ((z : Nat) : Int) + 1 = ((N : Nat) : Int) := by omega
        change Ends.nx _ ([some (.ref p), some (.ref a), some (.str hd), some (.int (((z : Nat) : Int) + 1)), none]) _
        rw [eN2]
        have fresh : nameOf hd N ∉ nms (Lb ++ Lo) := by
          intro m
          obtain ⟨t2, m2⟩ := mem_nms m
          obtain ⟨hd', k', e, ok', _⟩ := nmL _ m2
          have e' : nameOf hd N = nameOf hd' k' := e
          obtain ⟨c1, c2⟩ := name_inj hdok ok' e'
          obtain ⟨z', z1, z2⟩ := gr.1 _ m2 hd' k' e ok'
          rw [← c1] at z1
          exact hN z' z1 (by omega)
        have l1 := hd_len hdok
        have l2 := num_len (n := N) (by omega)
        have l3 : ("." : Str).length = 1 := by decide +kernel
        refine ⟨_, rfl, _, _, rfl, rfl, le_line (by omega), _, rfl, _, rfl, log_nat (by omega), _, _, rfl, rfl, le_line ?_, ?_⟩
        · rw [len_app]; show _ + (Str.ofString (toString ((N : Nat) : Int))).length ≤ _; omega
        have owl : (ownV ow).length < sizeLine := lt_line (by rw [ownV_len, Paired.length o2]; rw [List.length_append] at lL; omega)
        refine ⟨_, rfl, _, rfl, p, _, dx, _, _, rfl, s123 _ _ hp, T.clS, T.aS_own, sh_own, _, rfl, o, _, rfl, DPut.k (k := Sum.inr (nameOf hd N)) (s123 _ _ o1) owl, ?_⟩
        obtain ⟨H4, eH4⟩ : ∃ H4, H4 = upd H3 o (.dK (putK (ownV ow) (Sum.inr (nameOf hd N)) (.ref a))) := ⟨_, rfl⟩
        have nk4 : ∀ {c : Addr} {u : HO}, H3 c = some u → (∀ k, u ≠ .dK k) → H4 c = some u := fun hc n => by rw [eH4]; exact nodk (s123 _ _ o1) hc n
        have g4 : H4 g = some (.dK gks) := by rw [eH4, upd_ne (Ne.symm nog)]; exact s123 _ _ g1
        have tp4 : Tups H3 H4 := by rw [eH4]; exact tups_dk (s123 _ _ o1)
        have td4 : TdAt P w H4 t kvs := ⟨nk4 (s123 _ _ t1.1) (fun _ z => nomatch z), fun x hx => ((t1.2 x hx).mono (tups_of s123)).mono tp4⟩
        have ta4 : ThAt H4 a th := (ta.mono (tups_of s123)).mono tp4
        change Ends.nx _ _ (upd H3 o (.dK (putK (ownV ow) (Sum.inr (nameOf hd N)) (.ref a))))
        rw [← eH4]
        refine ⟨_, rfl, p, dx, _, rfl, nk4 (s123 _ _ hp) (fun _ z => nomatch z), sh_no, _, rfl, _, rfl, p, a, dx, o, t, g, _, hd, N, z, th, kvs, gks, rfl, nk4 (s123 _ _ hp) (fun _ z => nomatch z), td4, by omega, g4, by omega, hdok, by omega, ta4, hz, fun H5 b5 td5 hg5 => ?_⟩
        have bAll : But (Sh3 o t g) H H5 := by
          have b34 : But (Sh3 o t g) H H4 := by rw [eH4]; exact But.put (But.of s123) (.inl rfl)
          exact fun c u nc hc => b5 c u (by rintro (q | q); exact nc (.inr (.inl q)); exact nc (.inr (.inr q))) (b34 c u nc hc)
        have ok2 : StOk (Lb ++ Lo ++ [(nameOf hd N, th)]) := by
          refine ⟨?_, C.ok.kb.snoc kd.names, fun e he => ?_, ?_⟩
          · rw [nms_append]
            exact List.nodup_append.mpr ⟨C.ok.nd, List.nodup_cons.mpr ⟨fun h => (nomatch h), List.nodup_nil⟩, fun x hx y hy e => fresh (by rw [List.mem_singleton.mp hy] at e; rw [← show x = nameOf hd N from e]; exact hx)⟩
          · rcases List.mem_append.mp he with q | q
            · exact C.ok.th e q
            · rw [List.mem_singleton.mp q]; exact tok
          · rw [List.length_append]; show _ + 1 ≤ 1000; omega
        have tp5 : Tups H H5 := sh_tups sh bAll
        have lapp : (Lb ++ Lo ++ [(nameOf hd N, th)]).length = (Lb ++ Lo).length + 1 := by rw [List.length_append (bs := [(nameOf hd N, th)])]; rfl
        have sin := sh_in sh0
        have tp6 : Tups H5 (fil hs H H5) := fil_tup tp0 bAll sin
        have at5 : ∀ c, Sh3 o t g c → fil hs H H5 c = H5 c := fun c q => by
          cases u : hs c with
          | none => exact absurd u (sin c q)
          | some v => exact fil_some u
        have ho5 : H5 o = some (.dK (putK (ownV ow) (Sum.inr (nameOf hd N)) (.ref a))) := by
          refine b5 _ _ ?_ (by rw [eH4]; exact upd_same)
          rintro (q | q)
          · have := t1.1; rw [← q, o1] at this; cases this
          · exact nog q
        refine ⟨_, rfl, k (nameOf hd N) (fil hs H H5) H5 (Lb ++ Lo ++ [(nameOf hd N, th)]) ⟨fil_sub, tp6, fun x => fil_out, fun x hx q => ?_, bAll, fun n shn => ?_, [(nameOf hd N, th)], rfl, Nat.le_refl _, fun e he => by rw [List.mem_singleton.mp he]⟩ (List.mem_append_right _ (List.mem_singleton.mpr rfl))⟩
        · by_cases c3 : Sh3 o t g x
          · rcases c3 with rfl | rfl | rfl
            · rw [ho5] at q; cases q
            · have := td5.1; rw [q] at this; cases this
            · rw [hg5] at q; cases q
          · cases u : H x with
            | none => exact hx u
            | some v => rw [bAll _ _ c3 u] at q; cases q
        refine sh_grew (a := a) shn (fil_but s0 bAll) (fun kvs0 h0 => ?_) ((ta.mono tp5).mono tp6) fresh ⟨_, ⟨(at5 t (.inr (.inl rfl))).trans td5.1, fun x hx => (td5.2 x hx).mono tp6⟩, ?_, ?_⟩ ⟨_, (at5 g (.inr (.inr rfl))).trans hg5, ?_, ?_⟩ ok2 ?_
        · have h0' := s0 _ _ h0
          rw [o1] at h0'
          cases h0'
          exact (at5 o (.inl rfl)).trans ho5
        · exact td_step tk (fun e he => List.mem_append_left _ he) (List.mem_append_right _ (List.mem_singleton.mpr rfl))
        · have := tdPut_len kvs th a (nameOf hd N); rw [lapp]; omega
        · exact gr_step (gr_mono gr (by rw [lapp]; omega)) hdok (by rw [lapp]; omega) hz
        · have := length_putK gks (Sum.inr hd) (V.int ((max N z : Nat) : Int)); rw [lapp]; omega
        · rw [lapp]
          intro e he
          rcases List.mem_append.mp he with q | q
          · exact NmOk.mono nmL (Nat.le_succ _) e q
          · rw [List.mem_singleton.mp q]
            exact ⟨hd, N, rfl, hdok, by omega⟩
end
end An

namespace An
open PySem PySem.Spec L2
open PyProof.Rows (sortedS risingS)
/-! ### dicts keyed by texts -/
section
variable {β : Type} (f : β → V)
def dV (l : List (Str × β)) : List (Key × V) := l.map fun e => (Sum.inr e.1, f e.2)
def dput (l : List (Str × β)) (n : Str) (b : β) : List (Str × β) := if n ∈ l.map (·.1) then l.map (fun e => if e.1 = n then (e.1, b) else e) else l ++ [(n, b)]
theorem dV_any (l : List (Str × β)) (n : Str) : ((dV f l).any fun kv => decide (kv.1 = Sum.inr n)) = decide (n ∈ l.map (·.1)) := by
  induction l with
  | nil => rfl
  | cons e r ih =>
    show (decide ((Sum.inr e.1 : Key) = Sum.inr n) || (dV f r).any fun kv => decide (kv.1 = Sum.inr n)) = decide (n ∈ e.1 :: r.map (·.1))
    rw [ih]
    by_cases c : e.1 = n
    · rw [c]; simp
    · have c2 : ¬ n = e.1 := fun z => c z.symm
      have c3 : ¬ (Sum.inr e.1 : Key) = Sum.inr n := fun z => c (Sum.inr.inj z)
      rw [decide_eq_false c3, Bool.false_or]
      congr 1
      rw [List.mem_cons]
      exact propext ⟨fun h => .inr h, fun h => h.elim (fun z => absurd z c2) id⟩
theorem dV_put (l : List (Str × β)) (n : Str) (b : β) : putK (dV f l) (Sum.inr n) (f b) = dV f (dput l n b) := by
  unfold putK dput
  rw [dV_any]
  by_cases c : n ∈ l.map (·.1)
  · rw [if_pos (decide_eq_true c), if_pos c]
    unfold dV
    rw [List.map_map, List.map_map]
    refine List.map_congr_left fun e _ => ?_
    show (if (Sum.inr e.1 : Key) = Sum.inr n then ((Sum.inr e.1 : Key), f b) else (Sum.inr e.1, f e.2)) = _
    by_cases q : e.1 = n
    · rw [if_pos (by rw [q])]
      show _ = (Sum.inr (if e.1 = n then (e.1, b) else e).1, f (if e.1 = n then (e.1, b) else e).2)
      rw [if_pos q]
    · rw [if_neg (fun z => q (Sum.inr.inj z))]
      show _ = (Sum.inr (if e.1 = n then (e.1, b) else e).1, f (if e.1 = n then (e.1, b) else e).2)
      rw [if_neg q]
  · rw [if_neg (by rw [decide_eq_false c]; exact fun z => nomatch z), if_neg c]
    unfold dV
    rw [List.map_append]; rfl
theorem mem_dput {l : List (Str × β)} {n : Str} {b : β} {e : Str × β} (h : e ∈ dput l n b) : e ∈ l ∨ e = (n, b) := by
  unfold dput at h
  split at h
  · obtain ⟨x, hx, q⟩ := List.mem_map.mp h
    split at q
    · rename_i c
      exact .inr (by rw [← q, c])
    · exact .inl (q ▸ hx)
  · rcases List.mem_append.mp h with q | q
    · exact .inl q
    · exact .inr (List.mem_singleton.mp q)
theorem dput_len (l : List (Str × β)) (n : Str) (b : β) : (dput l n b).length ≤ l.length + 1 := by
  unfold dput
  split
  · rw [List.length_map]; omega
  · rw [List.length_append]; exact Nat.le_refl _
theorem dput_keys (l : List (Str × β)) (n : Str) (b : β) : (dput l n b).map (·.1) = if n ∈ l.map (·.1) then l.map (·.1) else l.map (·.1) ++ [n] := by
  unfold dput
  split
  · rw [List.map_map]
    refine List.map_congr_left fun e _ => ?_
    show (if e.1 = n then (e.1, b) else e).1 = e.1
    split <;> rfl
  · rw [List.map_append]; rfl
theorem dput_nd {l : List (Str × β)} (h : (l.map (·.1)).Nodup) (n : Str) (b : β) : ((dput l n b).map (·.1)).Nodup := by
  rw [dput_keys]
  split
  · exact h
  · rename_i c
    exact List.nodup_append.mpr ⟨h, List.nodup_cons.mpr ⟨fun h => (nomatch h), List.nodup_nil⟩, fun x hx y hy e => c (by rw [List.mem_singleton.mp hy] at e; rw [← e]; exact hx)⟩
theorem dV_get {l : List (Str × β)} {n : Str} (h : n ∈ l.map (·.1)) : ∃ b, (n, b) ∈ l ∧ valV (dV f l) (Sum.inr n) = some (f b) := by
  induction l with
  | nil => cases h
  | cons e r ih =>
    by_cases c : e.1 = n
    · refine ⟨e.2, by rw [← c]; exact List.mem_cons_self, ?_⟩
      show valV ((Sum.inr e.1, f e.2) :: dV f r) _ = _
      exact valV_pos (by show (Sum.inr e.1 : Key) = Sum.inr n; rw [c])
    · obtain ⟨b, h1, h2⟩ := ih ((List.mem_cons.mp (show n ∈ e.1 :: r.map (·.1) from h)).resolve_left fun z => c z.symm)
      refine ⟨b, List.mem_cons_of_mem _ h1, ?_⟩
      show valV ((Sum.inr e.1, f e.2) :: dV f r) _ = _
      rw [valV_neg (fun z => c (Sum.inr.inj z))]; exact h2
theorem dV_no {l : List (Str × β)} {n : Str} (h : n ∉ l.map (·.1)) : valV (dV f l) (Sum.inr n) = none := by
  have e := valV_any (Sum.inr n) (dV f l)
  rw [dV_any, decide_eq_false h] at e
  cases q : valV (dV f l) (Sum.inr n) with
  | none => rfl
  | some v => rw [q] at e; cases e
theorem dV_len (l : List (Str × β)) : (dV f l).length = l.length := by unfold dV; exact List.length_map ..
theorem dV_keys (l : List (Str × β)) : (dV f l).map (·.1) = (l.map (·.1)).map Sum.inr := by unfold dV; rw [List.map_map, List.map_map]; rfl
theorem dV_ix {l : List (Str × β)} {i : Nat} {k : Key} {v : V} (h : (dV f l)[i]? = some (k, v)) : ∃ n b, l[i]? = some (n, b) ∧ k = Sum.inr n ∧ v = f b := by
  obtain ⟨e, h1, h2⟩ := map_get h
  simp only [Prod.mk.injEq] at h2
  exact ⟨e.1, e.2, h1, h2.1, h2.2⟩
end
theorem ownV_dV (own : Own) : ownV own = dV V.ref own := rfl
/-! ### sorted labels -/
theorem sorted_rise : ∀ {ys : List Str}, sortedS ys = true → ys.Nodup → ∀ i a b, ys[i]? = some a → ys[i + 1]? = some b → a.cps.toList < b.cps.toList := by
  have go : ∀ {r : List Str} {p : Str}, risingS p r = true → (p :: r).Nodup → ∀ i a b, (p :: r)[i]? = some a → (p :: r)[i + 1]? = some b → a.cps.toList < b.cps.toList := by
    intro r
    induction r with
    | nil => intro p _ _ i a b _ h; simp at h
    | cons x r ih =>
      intro p h nd i a b ha hb
      have h' : (!ltCps x.cps.toList p.cps.toList) = true ∧ risingS x r = true := by simpa [risingS] using h
      cases i with
      | zero =>
        have ea : p = a := by simpa using ha
        have eb : x = b := by simpa using hb
        have h1 := h'.1
        rw [PyProof.Rows.ltCps_eq] at h1
        have h2 : ¬ x.cps.toList < p.cps.toList := by simpa using h1
        have ne : p.cps.toList ≠ x.cps.toList := fun z => by
          have : p = x := by
            cases p; cases x
            simp only [Str.mk.injEq]
            exact Array.toList_inj.mp z
          rw [this] at nd
          exact (List.nodup_cons.mp nd).1 List.mem_cons_self
        rw [← ea, ← eb]
        have h3 : p.cps.toList ≤ x.cps.toList := h2
        rcases Classical.em (p.cps.toList < x.cps.toList) with q | q
        · exact q
        · exact absurd (List.le_antisymm h3 q) ne
      | succ i =>
        exact ih h'.2 (List.nodup_cons.mp nd).2 i a b (by simpa using ha) (by simpa using hb)
  intro ys h nd
  cases ys with
  | nil => intro i a b h1; simp at h1
  | cons x r => exact go h nd
section
variable {P : Program} {w : World} {K : PySem.W.Frag} {mg : Str → Option Value} {base : Heap}
/-! ### put_rows -/
/-- the rows so far -/
def RowsOk (L : Cont) (rv : List (Str × Str)) : Prop := (rv.map (·.1)).Nodup ∧ ∀ e ∈ rv, LabelOk e.1 ∧ ∃ t, (e.2, t) ∈ L ∧ (lcode t = 76 ∨ lcode t = 84)
theorem RowsOk.mono {L L' : Cont} (s : ∀ e ∈ L, e ∈ L') {rv : List (Str × Str)} (h : RowsOk L rv) : RowsOk L' rv := ⟨h.1, fun e he => let ⟨a, t, b, c⟩ := h.2 e he; ⟨a, t, s _ b, c⟩⟩
theorem RowsOk.put {L : Cont} {rv : List (Str × Str)} (h : RowsOk L rv) {l nm : Str} {t : Thing} (lo : LabelOk l) (m : (nm, t) ∈ L) (c : lcode t = 76 ∨ lcode t = 84) : RowsOk L (dput rv l nm) :=
  ⟨dput_nd h.1 _ _, fun e he => (mem_dput he).elim (h.2 e) fun q => by rw [q]; exact ⟨lo, t, m, c⟩⟩
def spPutRows (P : Program) (w : World) (K : PySem.W.Frag) : Sp := fun vs H Q _ => ∃ (p r o t g : Addr) (L : Cont) (rv : List (Str × Str)) (hs : Hp), vs = [.ref p, .ref r] ∧ Same hs H ∧ Tups H hs ∧ ShAt P w (He.ga K "Pack") (He.ga K "Shelf") 1 hs p o t g L ∧
  H r = some (.dK (dV V.str rv)) ∧ RowsOk L rv ∧ rv.length < 60 ∧ L.length < 1000 ∧ ∀ nm hs' H' L' th, Grew Lf5 P w (He.ga K "Pack") (He.ga K "Shelf") p o t g hs H L hs' H' L' 1 → (nm, th) ∈ L' → lcode th = 84 → Q (.str nm) H'
theorem sc_put_rows : FnScope ["shelf", "rows", "label"] ["shelf", "rows"] (defScope s_put_rows) := ⟨rfl, rfl, rfl, by decide +kernel, rfl, by decide +kernel, by decide +kernel⟩
theorem ok_put_rows (T : Tx K mg) : Gf P w K mg base CX0 17 (He.ga K "put_rows") ["shelf", "rows"] (spPutRows P w K) := by
  have GS_put : Gf P w K mg base CX0 16 _ _ (spPut P w K) := ok_S_put T
  refine gf0_of T.d_put_rows sc_put_rows (fun _ _ _ _ _ _ us hl => match us, hl with | [_, _], _ => rfl) (fun vs H Q E h => ?_) (fun cdv A outer s H vs Q E hr h => ?_)
  · obtain ⟨p, r, o, t, g, L, rv, hs, rfl, _⟩ := h; rfl
  · obtain ⟨p, r, o, t, g, L, rv, hs, rfl, s0, tp, sh, hr0, ro, lr, lL, k⟩ := h
    refine ⟨_, pss_one (ps_ret (pe_mt T.clS T.mS_put GS_put (hr.mono (by decide)) pass0 (pv 0) (pa_cons (pe_tup (pa_cons pe_str (pa_cons (pe_callTy (r := rTupK K) call_tuple_of rfl T.n_tuple (by decide +kernel) (pa_cons (pe_lc (own := [("label", 2)]) (g := gName 2) rfl sc_put_rows.nd (pi_list (pe_callB (call_sortedD rfl) rfl T.n_sorted (by decide +kernel) (pa_cons (pv 1) pa_nil))) (blkOk_by (own := [("label", 2)]) (N := ["shelf", "rows", "label"]) (sc := defScope s_put_rows) (by decide +kernel)) (fun _ _ _ _ _ => pg_name (i := 2) sc_put_rows.nd rfl (Or.inl rfl)) (fun _ _ _ _ _ => pts_nil) (fun _ _ _ _ _ => (pe_tup (pa_cons (pv 2) (pa_cons (pe_dget (hu_of hr) (pv 1) (pv 2) (fun _ _ => rfl)) pa_nil))))) pa_nil)) pa_nil))) pa_nil))), ?_⟩
    have shH := sh.mono s0
    obtain ⟨vb, Lb, Lo, eL, C, _⟩ := id shH
    obtain ⟨dx, hp⟩ := C.ins
    refine ⟨_, rfl, p, dx, _, rfl, hp, sh_no, _, rfl, r, _, rv.map (·.1), rfl, .inl hr0, dV_keys _ _, by rw [List.length_map]; omega, fun ys l pm so hl => ?_⟩
    have nd : ys.Nodup := pm.nodup_iff.mpr ro.1
    have s1 := same_new (o := .lst (ys.map V.str)) hl
    have yl : ys.length = rv.length := by rw [pm.length_eq, List.length_map]
    have keyIn : ∀ y ∈ ys, y ∈ rv.map (·.1) := fun y hy => pm.mem_iff.mp hy
    refine ⟨l, rfl, ⟨_, SqL.of upd_same⟩, fun D hD => lc_it walk_list (fun i H' => Same (upd H l (.lst (ys.map V.str))) H' ∧ ∃ (as : List Addr) (rows : List (Str × Str)), H' D = some (.lst (as.map V.ref)) ∧ RowsAt H' as rows ∧ rows.map (·.1) = ys.take i ∧ ∀ e ∈ rows, e ∈ rv) ⟨same_new hD, [], [], upd_same, .nil, rfl, fun _ h => (nomatch h)⟩ (fun _ _ _ q => SqL.of (q.1 _ _ upd_same)) ?_ ?_⟩
    · rintro i x H1 H2 hi ⟨hs1, as, rows, hd, hra, hk, hm⟩ ⟨rfl, hx⟩
      obtain ⟨y, hy, rfl⟩ := map_get hx
      have ym : y ∈ ys := List.mem_of_getElem? hy
      obtain ⟨b, b1, b2⟩ := dV_get V.str (keyIn y ym)
      have gd := DGet.k (k := Sum.inr y) (hs1 _ _ (s1 _ _ hr0))
      rw [b2] at gd
      have la := Paired.length hra
      have lk := congrArg List.length hk
      rw [List.length_map, List.length_take] at lk
      have iy := (List.getElem?_eq_some_iff.mp hy).1
      refine ⟨rfl, _, rfl, _, rfl, _, rfl, r, _, rfl, gd, by show 2 ≤ sizeLine; decide, fun u hu => ?_⟩
      have nu : D ≠ u := ne_of_none hd hu
      refine ⟨_, by rw [upd_ne nu]; exact hd, lt_line (by rw [List.length_map]; omega), Same.mut (Same.new hs1 hu) hD, as ++ [u], rows ++ [(y, b)], ?_, ?_, ?_, ?_⟩
      · rw [upd_same, List.map_append]; rfl
      · refine RowsAt.mono (tups_lst (xs := as.map V.ref) (by rw [upd_ne nu]; exact hd)) (paired_snoc (RowsAt.mono (tups_new hu) hra) upd_same)
      · rw [List.map_append, hk, take_snoc hy]; rfl
      · intro e he
        rcases List.mem_append.mp he with q | q
        · exact hm e q
        · rw [List.mem_singleton.mp q]; exact b1
    · rintro H1 ⟨hs1, as, rows, hd, hra, hk, hm⟩
      rw [List.length_map, List.take_length] at hk
      refine ⟨D, _, rfl, .inl ⟨SqL.of hd, fun q hq => ?_⟩⟩
      refine ⟨by show 2 ≤ sizeLine; decide, fun a ha => ?_⟩
      have s2 := same_new (o := .tup (as.map V.ref)) hq
      have s3 := Same.new (o := .tup [V.str "tree", V.ref q]) s2 ha
      have sAll : Same H (upd (upd H1 q (.tup (as.map V.ref))) a (.tup [V.str "tree", V.ref q])) := Same.trans (Same.trans s1 hs1) s3
      have G0 := Grew.same (G := Lf5) (P := P) (w := w) (CP := He.ga K "Pack") (CS := He.ga K "Shelf") (p := p) (o := o) (t := t) (g := g) (L := L) s0 tp sAll
      have ta : ThAt (upd (upd H1 q (.tup (as.map V.ref))) a (.tup [V.str "tree", V.ref q])) a (.tree rows) := ⟨q, as, upd_same, same_new ha _ _ upd_same, RowsAt.mono (tups_of s3) hra⟩
      have tok : ThOk (.tree rows) := by
        refine ⟨fun e he => ?_, fun i e1 e2 h1 h2 => ?_, ?_⟩
        · obtain ⟨q1, t2, q2, _⟩ := ro.2 e (hm e he)
          have := shH.ok.sz
          exact ⟨q1, nm_len shH.nm (by omega) q2⟩
        · refine sorted_rise so nd i e1.1 e2.1 ?_ ?_
          · rw [← hk, List.getElem?_map, h1]; rfl
          · rw [← hk, List.getElem?_map, h2]; rfl
        · have := congrArg List.length hk
          rw [List.length_map] at this
          omega
      have kd : KidsOk L (.tree rows) := fun e he => let ⟨_, t2, q2, q3⟩ := ro.2 e (hm e he); ⟨t2, q2, q3⟩
      refine ⟨p, a, o, t, g, L, .tree rows, _, rfl, G0.sub, G0.tup, G0.sh 1 sh, ta, tok, kd, lL, fun nm hs' H' L' G1 m => ?_⟩
      exact k nm hs' H' L' _ ((G0.trans (G1.imp fun t e => by rw [e]; trivial)).le (by omega)) m rfl
end
end An

namespace An
open PySem PySem.Spec L2
/-! ### paths, files -/
def parts (z : Str) : Str × Str × Str := Txt.partition z "/"
def PathOk : Nat → Str → Prop
  | 0, _ => False
  | d + 1, z => LabelOk (parts z).1 ∧ z.length ≤ 40 ∧ ((parts z).2.1 = "" ∨ ((parts z).2.1 ≠ "" ∧ PathOk d (parts z).2.2))
def FsOk (d : Nat) (H : Hp) (fs : Own) : Prop := ∀ e ∈ fs, PathOk d e.1 ∧ ∃ ls, LsAt H e.2 ls ∧ ThOk (.leaf ls) ∧ Lf5 (.leaf ls)
theorem FsOk.mono {d : Nat} {H H' : Hp} (s : Tups H H') {fs : Own} (h : FsOk d H fs) : FsOk d H' fs := fun e he => let ⟨a, ls, b, c⟩ := h e he; ⟨a, ls, s _ _ b, c⟩
/-! ### local things while the shelf grows -/
section
variable {G : Thing → Prop} {P : Program} {w : World} {CP CS p o t g : Addr} {hs H hs' H' hs2 H2 : Hp} {L L' L2 : Cont} {c d n : Nat} {x : Addr} {u u' : HO}
theorem Grew.keep (a : Grew G P w CP CS p o t g hs H L hs' H' L' c) (k : ShAt P w CP CS n hs p o t g L) (h : hs x = none) (e : H x = some u) : H' x = some u ∧ hs' x = none :=
  ⟨a.but _ _ (fun z => sh_in k x z h) e, a.out x h (by rw [e]; exact fun z => nomatch z)⟩
/-- a local thing is made or written -/
theorem Grew.mut (a : Grew G P w CP CS p o t g hs H L hs' H' L' c) (h : H x = none) (h' : hs' x = none) (nt : ∀ xs, u ≠ .tup xs) : Grew G P w CP CS p o t g hs H L hs' (upd H' x u) L' c := by
  refine ⟨Same.mut a.sub h', fun b xs e => ?_, a.out, fun b q => ?_, But.mut a.but h, a.sh, a.ext⟩
  · by_cases z : b = x
    · rw [z, upd_same] at e; cases e; exact absurd rfl (nt xs)
    · rw [upd_ne z] at e; exact a.tup _ _ e
  · by_cases z : b = x
    · rw [z, upd_same]; exact fun z => nomatch z
    · rw [upd_ne z]; exact a.dom b q
theorem Grew.refl (s : Same hs H) (tp : Tups H hs) : Grew G P w CP CS p o t g hs H L hs H L 0 := ⟨s, tp, fun _ h _ => h, fun _ h => h, But.refl _ _, fun _ k => k, [], by simp, Nat.le_refl _, fun _ h => (nomatch h)⟩
/-- what was locked is unlocked -/
theorem Grew.unlock {f : Addr} {kvs : List (Key × V)} {od : Obj} (a : Grew G P w CP CS p o t g hs (upd H f (.frz od (.dK kvs))) L hs' H' L' c) (e : H f = some (.dK kvs)) (h : hs f = none) : Grew G P w CP CS p o t g hs H L hs' (upd H' f (.dK kvs)) L' c := by
  have h' : hs' f = none := a.out f h (by rw [upd_same]; exact fun z => nomatch z)
  refine ⟨Same.mut a.sub h', fun b xs q => ?_, fun b q1 q2 => ?_, fun b q => ?_, fun b v nb q => ?_, a.sh, a.ext⟩
  · by_cases z : b = f
    · rw [z, upd_same] at q; cases q
    · rw [upd_ne z] at q; exact a.tup _ _ q
  · by_cases z : b = f
    · rw [z]; exact h'
    · exact a.out b q1 (by rw [upd_ne z]; exact q2)
  · by_cases z : b = f
    · rw [z, upd_same]; exact fun z => nomatch z
    · rw [upd_ne z]; exact a.dom b (by rw [upd_ne z]; exact q)
  · by_cases z : b = f
    · rw [z, upd_same]; rw [z, e] at q; exact q
    · rw [upd_ne z]; exact a.but b v nb (by rw [upd_ne z]; exact q)
end
/-! ### the folders beneath -/
abbrev Bl := List (Str × Addr × Own)
def fB (b : Addr × Own) : V := .ref b.1
def bsum (bl : Bl) : Nat := (bl.map fun x => x.2.2.length).sum
def bset (bl : Bl) (q : Addr) (f : Own) : Bl := bl.map fun x => if x.2.1 = q then (x.1, x.2.1, f) else x
theorem bset_dV (bl : Bl) (q : Addr) (f : Own) : dV fB (bset bl q f) = dV fB bl := by
  unfold dV bset
  rw [List.map_map]
  refine List.map_congr_left fun x _ => ?_
  show ((Sum.inr (if x.2.1 = q then (x.1, x.2.1, f) else x).1 : Key), fB (if x.2.1 = q then (x.1, x.2.1, f) else x).2) = _
  split <;> rfl
theorem bset_adr (bl : Bl) (q : Addr) (f : Own) : (bset bl q f).map (·.2.1) = bl.map (·.2.1) := by
  unfold bset
  rw [List.map_map]
  refine List.map_congr_left fun x _ => ?_
  show (if x.2.1 = q then (x.1, x.2.1, f) else x).2.1 = _
  split <;> rfl
theorem bset_key (bl : Bl) (q : Addr) (f : Own) : (bset bl q f).map (·.1) = bl.map (·.1) := by
  unfold bset
  rw [List.map_map]
  refine List.map_congr_left fun x _ => ?_
  show (if x.2.1 = q then (x.1, x.2.1, f) else x).1 = _
  split <;> rfl
theorem bset_mem {bl : Bl} {q : Addr} {f : Own} {x : Str × Addr × Own} (h : x ∈ bset bl q f) : (x ∈ bl ∧ x.2.1 ≠ q) ∨ ∃ y ∈ bl, y.2.1 = q ∧ x = (y.1, q, f) := by
  obtain ⟨y, hy, e⟩ := List.mem_map.mp h
  split at e
  · rename_i c
    exact .inr ⟨y, hy, c, by rw [← e, c]⟩
  · rename_i c
    rw [← e]
    exact .inl ⟨hy, c⟩
theorem bset_no {bl : Bl} {q : Addr} {f : Own} (h : q ∉ bl.map (·.2.1)) : bset bl q f = bl := by
  unfold bset
  have e : bl.map (fun x => if x.2.1 = q then (x.1, x.2.1, f) else x) = bl.map id := List.map_congr_left fun x hx => by
    rw [if_neg (fun z => h (List.mem_map.mpr ⟨x, hx, z⟩))]; rfl
  rw [e, List.map_id]
theorem bset_sum {bl : Bl} {q : Addr} {f : Own} (nd : (bl.map (·.2.1)).Nodup) {y : Str × Addr × Own} (hy : y ∈ bl) (e : y.2.1 = q) (hf : f.length ≤ y.2.2.length + 1) : bsum (bset bl q f) ≤ bsum bl + 1 := by
  induction bl with
  | nil => cases hy
  | cons x r ih =>
    obtain ⟨n1, n2⟩ := List.nodup_cons.mp (show (x.2.1 :: r.map (·.2.1)).Nodup from nd)
    rcases List.mem_cons.mp hy with z | z
    · subst z
      have e2 : bset (y :: r) q f = (y.1, y.2.1, f) :: r := by
        show (if y.2.1 = q then (y.1, y.2.1, f) else y) :: bset r q f = _
        rw [if_pos e, bset_no (by rw [← e]; exact n1)]
      rw [e2]
      show f.length + bsum r ≤ y.2.2.length + bsum r + 1
      omega
    · have ne : x.2.1 ≠ q := fun z2 => n1 (by rw [z2, ← e]; exact List.mem_map.mpr ⟨y, z, rfl⟩)
      have e2 : bset (x :: r) q f = x :: bset r q f := by
        show (if x.2.1 = q then (x.1, x.2.1, f) else x) :: bset r q f = _
        rw [if_neg ne]
      rw [e2]
      have := ih n2 z
      show x.2.2.length + bsum (bset r q f) ≤ x.2.2.length + bsum r + 1
      omega
/-- one folder beneath -/
structure BOk (d : Nat) (H0 H hs : Hp) (r b : Addr) (x : Str × Addr × Own) : Prop where
  at' : H x.2.1 = some (.dK (ownV x.2.2))
  out : hs x.2.1 = none
  lab : LabelOk x.1
  fs : FsOk d H x.2.2
  pos : 1 ≤ x.2.2.length
  new : H0 x.2.1 = none
  nr : x.2.1 ≠ r
  nb : x.2.1 ≠ b
theorem sum_cost {d n c : Nat} {bl : Bl} (h : c + bsum bl ≤ n) (hp : ∀ x ∈ bl, 1 ≤ x.2.2.length) : c + (bl.map fun x => x.2.2.length * d + 1).sum ≤ n * (d + 1) := by
  have e : (bl.map fun x => x.2.2.length * d + 1).sum ≤ bsum bl * (d + 1) := by
    clear h
    induction bl with
    | nil => exact Nat.zero_le _
    | cons x r ih =>
      have i := ih fun y hy => hp y (List.mem_cons_of_mem _ hy)
      have hx := hp x List.mem_cons_self
      rw [List.map_cons, List.sum_cons]
      have e2 : bsum (x :: r) = x.2.2.length + bsum r := rfl
      rw [e2, Nat.add_mul, Nat.mul_add, Nat.mul_one]
      omega
  have h2 : c ≤ c * (d + 1) := by rw [Nat.mul_add, Nat.mul_one]; omega
  have h3 := Nat.mul_le_mul_right (d + 1) h
  rw [Nat.add_mul] at h3
  omega
theorem bl_len {bl : Bl} (hp : ∀ x ∈ bl, 1 ≤ x.2.2.length) : bl.length ≤ bsum bl := by
  induction bl with
  | nil => exact Nat.zero_le _
  | cons x r ih =>
    have i := ih fun y hy => hp y (List.mem_cons_of_mem _ hy)
    have hx := hp x List.mem_cons_self
    show r.length + 1 ≤ x.2.2.length + bsum r
    omega
end An

namespace An
open PySem PySem.Spec L2
/-- while the files are read -/
structure L1 (P : Program) (w : World) (CP CS p o t g : Addr) (hs H0 : Hp) (L : Cont) (d : Nat) (r b : Addr) (hs' H' : Hp) (L' : Cont) (c : Nat) (rv : List (Str × Str)) (bl : Bl) (i : Nat) : Prop where
  gr : Grew Lf5 P w CP CS p o t g hs H0 L hs' H' L' c
  ra : H' r = some (.dK (dV V.str rv))
  rh : hs' r = none
  ro : RowsOk L' rv
  rl : rv.length ≤ i
  ba : H' b = some (.dK (dV fB bl))
  bh : hs' b = none
  bo : ∀ x ∈ bl, BOk d H0 H' hs' r b x
  nd : (bl.map (·.2.1)).Nodup
  nk : (bl.map (·.1)).Nodup
  sz : c + bsum bl ≤ i
section
variable {P : Program} {w : World} {CP CS p o t g : Addr} {hs H0 hs' H' hs2 H2 : Hp} {L L' L2 : Cont} {d c e i n : Nat} {r b : Addr} {rv : List (Str × Str)} {bl : Bl}
theorem L1.grew (k : L1 P w CP CS p o t g hs H0 L d r b hs' H' L' c rv bl i) (sh : ShAt P w CP CS n hs p o t g L) (a : Grew Lf5 P w CP CS p o t g hs' H' L' hs2 H2 L2 e) :
    L1 P w CP CS p o t g hs H0 L d r b hs2 H2 L2 (c + e) rv bl (i + e) := by
  have sh' := k.gr.sh n sh
  have tp := a.tups k.gr.sub sh'
  obtain ⟨q1, q2⟩ := a.keep sh' k.rh k.ra
  obtain ⟨q3, q4⟩ := a.keep sh' k.bh k.ba
  refine ⟨k.gr.trans a, q1, q2, k.ro.mono a.mem, Nat.le_trans k.rl (Nat.le_add_right _ _), q3, q4, fun x hx => ?_, k.nd, k.nk, ?_⟩
  · obtain ⟨z1, z2, z3, z4, z5, z6, z7, z8⟩ := k.bo x hx
    obtain ⟨y1, y2⟩ := a.keep sh' z2 z1
    exact ⟨y1, y2, z3, z4.mono tp, z5, z6, z7, z8⟩
  · have := k.sz; omega
theorem L1.up (k : L1 P w CP CS p o t g hs H0 L d r b hs' H' L' c rv bl i) {j : Nat} (h : i ≤ j) : L1 P w CP CS p o t g hs H0 L d r b hs' H' L' c rv bl j :=
  ⟨k.gr, k.ra, k.rh, k.ro, Nat.le_trans k.rl h, k.ba, k.bh, k.bo, k.nd, k.nk, Nat.le_trans k.sz h⟩
/-- a fresh thing -/
theorem L1.new (k : L1 P w CP CS p o t g hs H0 L d r b hs' H' L' c rv bl i) {q : Addr} {u : HO} (h : H' q = none) (nt : ∀ xs, u ≠ .tup xs) : L1 P w CP CS p o t g hs H0 L d r b hs' (upd H' q u) L' c rv bl i := by
  have h0 : H0 q = none := by
    cases z : H0 q with
    | none => rfl
    | some v => exact absurd h (k.gr.dom q (by rw [z]; exact fun z => nomatch z))
  have hh : hs' q = none := L2.Same.free k.gr.sub h
  have s := same_new (o := u) h
  refine ⟨k.gr.mut h0 hh nt, s _ _ k.ra, k.rh, k.ro, k.rl, s _ _ k.ba, k.bh, fun x hx => ?_, k.nd, k.nk, k.sz⟩
  obtain ⟨z1, z2, z3, z4, z5, z6, z7, z8⟩ := k.bo x hx
  exact ⟨s _ _ z1, z2, z3, z4.mono (tups_of s), z5, z6, z7, z8⟩
theorem L1.rput (k : L1 P w CP CS p o t g hs H0 L d r b hs' H' L' c rv bl i) (h0 : H0 r = none) (nrb : r ≠ b) {l nm : Str} {th : Thing} (lo : LabelOk l) (m : (nm, th) ∈ L') (q : lcode th = 76 ∨ lcode th = 84) (hi : rv.length < i) :
    L1 P w CP CS p o t g hs H0 L d r b hs' (upd H' r (.dK (dV V.str (dput rv l nm)))) L' c (dput rv l nm) bl i := by
  refine ⟨k.gr.mut h0 k.rh (fun _ z => nomatch z), upd_same, k.rh, k.ro.put lo m q, Nat.le_trans (dput_len _ _ _) hi, by rw [upd_ne (Ne.symm nrb)]; exact k.ba, k.bh, fun x hx => ?_, k.nd, k.nk, k.sz⟩
  obtain ⟨z1, z2, z3, z4, z5, z6, z7, z8⟩ := k.bo x hx
  exact ⟨by rw [upd_ne z7]; exact z1, z2, z3, z4.mono (tups_dk k.ra), z5, z6, z7, z8⟩
/-- one more file in a folder that is there -/
theorem L1.bput (k : L1 P w CP CS p o t g hs H0 L d r b hs' H' L' c rv bl i) {y : Str × Addr × Own} (hy : y ∈ bl) {rest : Str} {a : Addr} (ok : FsOk d H' [(rest, a)]) :
    L1 P w CP CS p o t g hs H0 L d r b hs' (upd H' y.2.1 (.dK (ownV (dput y.2.2 rest a)))) L' c rv (bset bl y.2.1 (dput y.2.2 rest a)) (i + 1) := by
  obtain ⟨z1, z2, z3, z4, z5, z6, z7, z8⟩ := k.bo y hy
  have tp : Tups H' (upd H' y.2.1 (.dK (ownV (dput y.2.2 rest a)))) := tups_dk z1
  refine ⟨k.gr.mut z6 z2 (fun _ z => nomatch z), by rw [upd_ne (Ne.symm z7)]; exact k.ra, k.rh, k.ro, Nat.le_succ_of_le k.rl, by rw [upd_ne (Ne.symm z8), bset_dV]; exact k.ba, k.bh, fun x hx => ?_, by rw [bset_adr]; exact k.nd, by rw [bset_key]; exact k.nk, ?_⟩
  · rcases bset_mem hx with ⟨h1, h2⟩ | ⟨y', h1, h2, h3⟩
    · obtain ⟨y1, y2, y3, y4, y5, y6, y7, y8⟩ := k.bo x h1
      exact ⟨by rw [upd_ne h2]; exact y1, y2, y3, y4.mono tp, y5, y6, y7, y8⟩
    · obtain ⟨y1, y2, y3, y4, y5, y6, y7, y8⟩ := k.bo y' h1
      rw [h3]
      refine ⟨upd_same, z2, y3, fun e he => ?_, ?_, z6, z7, z8⟩
      · rcases mem_dput he with q | q
        · exact (z4.mono tp) e q
        · rw [q]; exact (ok.mono tp) _ (List.mem_singleton.mpr rfl)
      · show 1 ≤ (dput y.2.2 rest a).length
        unfold dput
        split
        · rw [List.length_map]; exact z5
        · rw [List.length_append]; show 1 ≤ _ + 1; omega
  · have := bset_sum k.nd hy rfl (dput_len y.2.2 rest a)
    have := k.sz
    omega
/-- .. in a new folder -/
theorem L1.bnew (k : L1 P w CP CS p o t g hs H0 L d r b hs' H' L' c rv bl i) (nrb : r ≠ b) (hb0 : H0 b = none) {q : Addr} (h : H' q = none) {l rest : Str} {a : Addr} (lo : LabelOk l) (nl : l ∉ bl.map (·.1)) (ok : FsOk d H' [(rest, a)]) :
    L1 P w CP CS p o t g hs H0 L d r b hs' (upd (upd (upd H' q (.dK [])) b (.dK (dV fB (dput bl l (q, [])))) ) q (.dK (ownV [(rest, a)]))) L' c rv (dput bl l (q, [(rest, a)])) (i + 1) := by
  have h0 : H0 q = none := by
    cases z : H0 q with
    | none => rfl
    | some v => exact absurd h (k.gr.dom q (by rw [z]; exact fun z => nomatch z))
  have hh : hs' q = none := L2.Same.free k.gr.sub h
  have nqb : q ≠ b := fun z => by rw [z, k.ba] at h; cases h
  have nqr : q ≠ r := fun z => by rw [z, k.ra] at h; cases h
  have e1 : ∀ f : Own, dput bl l (q, f) = bl ++ [(l, q, f)] := fun f => by unfold dput; rw [if_neg nl]
  have g1 := ((k.gr.mut (u := .dK []) h0 hh (fun _ z => nomatch z)).mut (u := .dK (dV fB (dput bl l (q, [])))) hb0 k.bh (fun _ z => nomatch z)).mut (u := .dK (ownV [(rest, a)])) h0 hh (fun _ z => nomatch z)
  have old : ∀ {x : Addr} {u : HO}, H' x = some u → x ≠ b → upd (upd (upd H' q (.dK [])) b (.dK (dV fB (dput bl l (q, [])))) ) q (.dK (ownV [(rest, a)])) x = some u := fun hx n => by
    rw [upd_ne (ne_of_none hx h), upd_ne n, upd_ne (ne_of_none hx h)]; exact hx
  have tp : Tups H' (upd (upd (upd H' q (.dK [])) b (.dK (dV fB (dput bl l (q, [])))) ) q (.dK (ownV [(rest, a)]))) := fun x xs e => old e (ne_of e k.ba (fun z => nomatch z))
  refine ⟨g1, ?_, k.rh, k.ro, Nat.le_succ_of_le k.rl, ?_, k.bh, fun x hx => ?_, ?_, dput_nd k.nk _ _, ?_⟩
  · exact old k.ra nrb
  · rw [upd_ne (Ne.symm nqb), upd_same, e1, e1]; unfold dV; rw [List.map_append, List.map_append]; rfl
  · rw [e1] at hx
    rcases List.mem_append.mp hx with z | z
    · obtain ⟨y1, y2, y3, y4, y5, y6, y7, y8⟩ := k.bo x z
      exact ⟨old y1 y8, y2, y3, y4.mono tp, y5, y6, y7, y8⟩
    · rw [List.mem_singleton.mp z]
      exact ⟨upd_same, hh, lo, ok.mono tp, Nat.le_refl _, h0, nqr, nqb⟩
  · rw [e1, List.map_append]
    refine List.nodup_append.mpr ⟨k.nd, List.nodup_cons.mpr ⟨fun h => (nomatch h), List.nodup_nil⟩, fun x hx y hy e => ?_⟩
    obtain ⟨z, hz, rfl⟩ := List.mem_map.mp hx
    have ey : y = q := List.mem_singleton.mp hy
    have := (k.bo z hz).at'
    rw [e, ey, h] at this; cases this
  · rw [e1]
    have : bsum (bl ++ [(l, q, [(rest, a)])]) = bsum bl + 1 := by unfold bsum; rw [List.map_append, List.sum_append]; rfl
    have := k.sz
    omega
end
end An

namespace An
open PySem PySem.Spec L2
theorem le_sum : ∀ {l : List Nat} {x : Nat}, x ∈ l → x ≤ l.sum
  | [], _, h => by cases h
  | a :: l, x, h => by
    rw [List.sum_cons]
    rcases List.mem_cons.mp h with e | e
    · omega
    · have := le_sum e; omega
theorem sum_take (l : List Nat) (j : Nat) : (l.take j).sum ≤ l.sum := by
  have h := congrArg List.sum (List.take_append_drop j l)
  rw [List.sum_append] at h
  omega
theorem dV_at {β : Type} (f : β → V) {l : List (Str × β)} (nd : (l.map (·.1)).Nodup) {i : Nat} {n : Str} {b : β} (h : l[i]? = some (n, b)) : valV (dV f l) (Sum.inr n) = some (f b) := by
  induction l generalizing i with
  | nil => cases h
  | cons e r ih =>
    obtain ⟨n1, n2⟩ := List.nodup_cons.mp (show (e.1 :: r.map (·.1)).Nodup from nd)
    cases i with
    | zero =>
      have : e = (n, b) := by simpa using h
      show valV ((Sum.inr e.1, f e.2) :: dV f r) _ = _
      rw [this]
      exact valV_pos rfl
    | succ i =>
      have h' : r[i]? = some (n, b) := by simpa using h
      show valV ((Sum.inr e.1, f e.2) :: dV f r) _ = _
      rw [valV_neg (fun z => n1 (by rw [show e.1 = n from Sum.inr.inj z]; exact List.mem_map.mpr ⟨_, List.mem_of_getElem? h', rfl⟩))]
      exact ih n2 h'
theorem dV_len' {β : Type} (f : β → V) (l : List (Str × β)) {n : Nat} (h : l.length ≤ n) (hn : n < 100000) : (dV f l).length < sizeLine := lt_line (by rw [dV_len]; omega)
section
variable {P : Program} {w : World} {K : PySem.W.Frag} {mg : Str → Option Value} {base : Heap}
/-! ### grown -/
def spGrown (P : Program) (w : World) (K : PySem.W.Frag) (d : Nat) : Sp := fun vs H Q _ => ∃ (p fa o t g : Addr) (L : Cont) (fs : Own) (hs : Hp), vs = [.ref p, .ref fa] ∧ Same hs H ∧ Tups H hs ∧ ShAt P w (He.ga K "Pack") (He.ga K "Shelf") 1 hs p o t g L ∧
  H fa = some (.dK (ownV fs)) ∧ hs fa = none ∧ FsOk (d + 1) H fs ∧ fs.length ≤ 10 ∧ L.length + fs.length * (d + 1) + 1 ≤ 1000 ∧
  ∀ nm hs' H' L' th, Grew Lf5 P w (He.ga K "Pack") (He.ga K "Shelf") p o t g hs H L hs' H' L' (fs.length * (d + 1) + 1) → (nm, th) ∈ L' → lcode th = 84 → Q (.str nm) H'
theorem sc_grown : FnScope ["shelf", "files", "rows", "beneath", "path", "label", "sign", "rest", "inner"] ["shelf", "files"] (defScope s_grown) := ⟨rfl, rfl, rfl, by decide +kernel, rfl, by decide +kernel, by decide +kernel⟩
theorem grown_no (T : Tx K mg) : Gf P w K mg base CX0 1 (He.ga K "grown") ["shelf", "files"] (fun _ _ _ _ => False) :=
  gf0_of T.d_grown sc_grown (fun _ _ _ _ _ _ us hl => match us, hl with | [_, _], _ => rfl) (fun vs H Q E h => h.elim) (fun cdv A outer s H vs Q E hr h => h.elim)
theorem grown_body (T : Tx K mg) (d : Nat) (sp0 : Sp) (G_grown : Gf P w K mg base CX0 (19 + d) (He.ga K "grown") ["shelf", "files"] sp0) (hsp : ∀ d', d = d' + 1 → ∀ vs H Q E, spGrown P w K d' vs H Q E → sp0 vs H Q E) :
    Gf P w K mg base CX0 (19 + d + 1) (He.ga K "grown") ["shelf", "files"] (spGrown P w K d) := by
  have GS_put : Gf P w K mg base CX0 16 _ _ (spPut P w K) := ok_S_put T
  have G_put_rows : Gf P w K mg base CX0 17 _ _ (spPutRows P w K) := ok_put_rows T
  refine gf0_of T.d_grown sc_grown (fun _ _ _ _ _ _ us hl => match us, hl with | [_, _], _ => rfl) (fun vs H Q E h => ?_) (fun cdv A outer s H vs Q E hr h => ?_)
  · obtain ⟨p, fa, o, t, g, L, fs, hs, rfl, _⟩ := h; rfl
  · obtain ⟨p, fa, o, t, g, L, fs, hs, rfl, s0, tp, sh, hfa, hsf, fok, lf, lL, k⟩ := h
    refine ⟨_, pss_cons (ps_set (i := 2) sc_grown.nd rfl (Or.inl rfl) pe_dnewK)
      (pss_cons (ps_set (i := 3) sc_grown.nd rfl (Or.inl rfl) pe_dnewK)
      (pss_cons (ps_lock (ps_for PassesOwn.never rfl (pi_keys (pv 1)) (pg_name (i := 4) sc_grown.nd rfl (Or.inl rfl))
        (pss_cons (ps_asg (pe_partition (pv 4) pe_str) (pg_tup rfl (pgs_cons (pg_name (i := 5) sc_grown.nd rfl (Or.inl rfl)) (pgs_cons (pg_name (i := 6) sc_grown.nd rfl (Or.inl rfl)) (pgs_cons (pg_name (i := 7) sc_grown.nd rfl (Or.inl rfl)) pgs_nil)))))
        (pss_one (ps_if (pt_cmpR op_eq (pv 6) pe_str (nomark _))
          (pss_one (ps_dput (hu_of hr) (pv 2) (pv 5) (pe_mt T.clS T.mS_put GS_put (hr.mono (by omega)) pass0 (pv 0) (pa_cons (pe_tup (pa_cons pe_str (pa_cons (pe_dget (hu_of hr) (pv 1) (pv 4) (fun _ _ => rfl)) pa_nil))) pa_nil)) rfl))
          (pss_cons (ps_set (i := 8) sc_grown.nd rfl (Or.inl rfl) (pe_dsetd (pv 3) (pv 5) pe_dnewK ⟨rfl, rfl, rfl, rfl⟩))
          (pss_one (ps_dput (hu_of hr) (pv 8) (pv 7) (pe_dget (hu_of hr) (pv 1) (pv 4) (fun _ _ => rfl)) rfl))))))))
      (pss_cons (ps_lock (ps_for PassesOwn.never rfl (pi_keys (pv 3)) (pg_name (i := 5) sc_grown.nd rfl (Or.inl rfl))
        (pss_one (ps_dput (hu_of hr) (pv 2) (pv 5) (pe_fn G_grown (hr.mono (by omega)) T.g_grown pass0 (pa_cons (pv 0) (pa_cons (pe_dget (hu_of hr) (pv 3) (pv 5) (fun _ _ => rfl)) pa_nil))) rfl))))
      (pss_one (ps_ret (pe_fn G_put_rows (hr.mono (by omega)) T.g_put_rows pass0 (pa_cons (pv 0) (pa_cons (pv 2) pa_nil)))))))), ?_⟩
    have shH := sh.mono s0
    obtain ⟨vb, Lb, Lo, eL, C, _⟩ := id sh
    obtain ⟨dx, hp⟩ := C.ins
    refine fun r hr0 => ?_
    refine fun b hb0' => ?_
    have nrb : r ≠ b := ne_of_none upd_same hb0'
    have hb0 : H b = none := L2.Same.free (same_new (o := .dK []) hr0) hb0'
    have nfr : fa ≠ r := ne_of_none hfa hr0
    have nfb : fa ≠ b := ne_of_none hfa hb0
    obtain ⟨H1, eH1⟩ : ∃ H1, H1 = upd (upd H r (.dK [])) b (.dK []) := ⟨_, rfl⟩
    have hfa1 : H1 fa = some (.dK (ownV fs)) := by rw [eH1, upd_ne nfb, upd_ne nfr]; exact hfa
    rw [← eH1]
    refine ⟨fa, _, hfa1, True.intro, fun od => ?_⟩
    obtain ⟨H0, eH0⟩ : ∃ H0, H0 = upd H fa (.frz od (.dK (ownV fs))) := ⟨_, rfl⟩
    have r0 : H0 r = none := by rw [eH0, upd_ne (Ne.symm nfr)]; exact hr0
    have b0 : H0 b = none := by rw [eH0, upd_ne (Ne.symm nfb)]; exact hb0
    have f0 : H0 fa = some (.frz od (.dK (ownV fs))) := by rw [eH0]; exact upd_same
    have hsr : hs r = none := L2.Same.free s0 hr0
    have hsb : hs b = none := L2.Same.free s0 hb0
    have s00 : Same hs H0 := by rw [eH0]; exact Same.mut s0 hsf
    have tp0 : Tups H0 hs := fun x xs e => by
      rw [eH0] at e
      by_cases z : x = fa
      · rw [z, upd_same] at e; cases e
      · rw [upd_ne z] at e; exact tp _ _ e
    have tf : Tups H H0 := by rw [eH0]; exact tups_dk hfa
    have eK : upd H1 fa (.frz od (.dK (ownV fs))) = upd (upd H0 r (.dK [])) b (.dK []) := by
      rw [eH1, eH0]
      funext x
      by_cases z : x = fa
      · rw [z, upd_same, upd_ne nfb, upd_ne nfr, upd_same]
      · rw [upd_ne z]
        by_cases z2 : x = b
        · rw [z2, upd_same, upd_same]
        · rw [upd_ne z2, upd_ne z2]
          by_cases z3 : x = r
          · rw [z3, upd_same, upd_same]
          · rw [upd_ne z3, upd_ne z3, upd_ne z]
    rw [eK]
    have k0 : L1 P w (He.ga K "Pack") (He.ga K "Shelf") p o t g hs H0 L d r b hs (upd (upd H0 r (.dK [])) b (.dK [])) L 0 [] [] 0 := by
      refine ⟨((Grew.refl s00 tp0).mut (u := .dK []) r0 hsr (fun _ z => nomatch z)).mut (u := .dK []) b0 hsb (fun _ z => nomatch z), ?_, hsr, ⟨List.nodup_nil, fun _ h => (nomatch h)⟩, Nat.le_refl _, upd_same, hsb, fun _ h => (nomatch h), List.nodup_nil, List.nodup_nil, Nat.le_refl _⟩
      rw [upd_ne nrb]; exact upd_same
    have fl : (ownV fs).length = fs.length := ownV_len fs
    refine ⟨_, rfl, fa, od, rfl, .inl ⟨_, ?_, for_it walk_keys (fun i σ H' => ∃ (v4 v5 v6 v7 v8 : Option V) (hs' : Hp) (L' : Cont) (c : Nat) (rv : List (Str × Str)) (bl : Bl), σ = [some (.ref p), some (.ref fa), some (.ref r), some (.ref b), v4, v5, v6, v7, v8] ∧
        L1 P w (He.ga K "Pack") (He.ga K "Shelf") p o t g hs H0 L d r b hs' H' L' c rv bl i)
      ⟨none, none, none, none, none, hs, L, 0, [], [], rfl, k0⟩ (fun _ _ _ _ ⟨_, _, _, _, _, _, _, _, _, _, _, q⟩ => (q.gr.keep sh hsf f0).1) ?_ ?_⟩⟩
    · rw [← eK]; exact upd_same
    · rintro i x σ H2 H3 hi ⟨v4, v5, v6, v7, v8, hs', L', c, rv, bl, rfl, kk⟩ ⟨rfl, key, vv, hx, rfl⟩
      rw [fl] at hi
      obtain ⟨n, a0, e1, rfl, rfl⟩ := dV_ix V.ref hx
      have em : (n, a0) ∈ fs := List.mem_of_getElem? e1
      have nk : n ∈ fs.map (·.1) := List.mem_map.mpr ⟨_, em, rfl⟩
      obtain ⟨a, am, av⟩ := dV_get V.ref nk
      obtain ⟨pok, ls, lsat, lok, l5⟩ := fok _ am
      obtain ⟨lo, nlen, alt⟩ := pok
      have tf3 : Tups H H3 := Tups.trans tf (kk.gr.tups s00 sh)
      refine ⟨_, rfl, ⟨_, rfl⟩, _, _, rfl, rfl, by decide +kernel, le_line (by have nlen' : n.length ≤ 40 := nlen; omega), fun u hu => ?_⟩
      have su := same_new (o := .tup [V.str (Txt.partition n "/").1, V.str (Txt.partition n "/").2.1, V.str (Txt.partition n "/").2.2]) hu
      refine ⟨u, _, rfl, SqT.of upd_same, rfl, _, _, rfl, _, _, rfl, _, _, rfl, rfl, ?_⟩
      have k1 := kk.grew sh (Grew.same kk.gr.sub kk.gr.tup su)
      have f1 := (k1.gr.keep sh hsf f0).1
      have gd : DGet (upd H3 u (.tup [V.str (Txt.partition n "/").1, V.str (Txt.partition n "/").2.1, V.str (Txt.partition n "/").2.2])) fa (.str n) (some (.ref a)) := .inl ⟨_, Sum.inr n, .inr ⟨od, f1⟩, rfl, av.symm⟩
      have lok' : ThOk (.leaf ls) := lok
      refine ⟨_, rfl, rfl, _, rfl, ?_⟩
      rcases alt with q | ⟨q, pok2⟩
      · refine itep (decide_eq_true (by show V.str (parts n).2.1 = _; rw [q])) ?_
        obtain ⟨dx', hp'⟩ : ∃ dx', (upd H3 u (.tup [V.str (Txt.partition n "/").1, V.str (Txt.partition n "/").2.1, V.str (Txt.partition n "/").2.2])) p = some (.ins (He.ga K "Shelf") dx' (shF vb o t g)) := ⟨dx, k1.gr.but _ _ (fun z => by
          rcases z with z | z | z
          · obtain ⟨ow, o1, _⟩ := C.own; rw [z, o1] at hp; cases hp
          · obtain ⟨kvs, t1, _⟩ := C.told; have := t1.1; rw [← z, hp] at this; cases this
          · obtain ⟨gks, g1, _⟩ := C.gr; rw [z, g1] at hp; cases hp) (s00 _ _ hp)⟩
        refine ⟨_, rfl, p, dx', _, rfl, hp', sh_no, _, rfl, _, rfl, fa, _, rfl, gd, by show 2 ≤ sizeLine; decide, fun a2 ha2 => ?_⟩
        have sa := same_new (o := .tup [V.str "leaf", V.ref a]) ha2
        have k2 := k1.grew sh (Grew.same k1.gr.sub k1.gr.tup sa)
        have ext2 := k2.gr.len
        have sz2 := k2.sz
        refine ⟨p, a2, o, t, g, L', .leaf ls, _, rfl, k2.gr.sub, k2.gr.tup, k2.gr.sh 1 sh, ⟨a, upd_same, sa _ _ (su _ _ (tf3 _ _ lsat))⟩, lok', trivial, ?_, fun nm hs4 H4 L4 G4 m4 => ?_⟩
        · have : fs.length ≤ fs.length * (d + 1) := by rw [Nat.mul_add, Nat.mul_one]; omega
          omega
        · have k3 := k2.grew sh (G4.imp (F := Lf5) fun t e => by rw [e]; exact l5)
          have k4 := k3.rput r0 nrb lo m4 (.inl rfl) (by have := kk.rl; omega)
          refine ⟨_, rfl, _, rfl, r, _, rfl, DPut.k (k := Sum.inr (parts n).1) k3.ra (dV_len' V.str rv kk.rl (by omega)), ?_⟩
          rw [dV_put V.str]
          exact ⟨_, _, _, _, _, _, L4, _, _, _, rfl, k4⟩
      · refine iten (ne_s q) ?_
        obtain ⟨d', rfl⟩ : ∃ d', d = d' + 1 := by
          cases d with
          | zero => exact pok2.elim
          | succ d' => exact ⟨d', rfl⟩
        have ok1 : ∀ {H5 : Hp}, Tups H H5 → FsOk (d' + 1) H5 [((parts n).2.2, a)] := fun tq e he => by
          rw [List.mem_singleton.mp he]
          exact ⟨pok2, ls, tq _ _ lsat, lok', l5⟩
        have tf4 : Tups H (upd H3 u (.tup [V.str (Txt.partition n "/").1, V.str (Txt.partition n "/").2.1, V.str (Txt.partition n "/").2.2])) := Tups.trans tf3 (tups_of su)
        have blen : bl.length ≤ 10 := by have := bl_len (bl := bl) (fun x hx => (kk.bo x hx).pos); have := kk.sz; omega
        refine ⟨_, rfl, b, rfl, .inl ⟨_, .inl k1.ba⟩, _, rfl, fun q0 hq0 => ?_⟩
        have sq := same_new (o := .dK []) hq0
        have kq := k1.new hq0 (u := .dK []) (fun _ z => nomatch z)
        have gdq : DGet (upd (upd H3 u (.tup [V.str (Txt.partition n "/").1, V.str (Txt.partition n "/").2.1, V.str (Txt.partition n "/").2.2])) q0 (.dK [])) fa (.str n) (some (.ref a)) := .inl ⟨_, Sum.inr n, .inr ⟨od, (kq.gr.keep sh hsf f0).1⟩, rfl, av.symm⟩
        refine ⟨_, Sum.inr (parts n).1, kq.ba, rfl, dV_len' fB bl blen (by omega), fun v hv => ?_, fun hn => ?_⟩
        · by_cases c : (parts n).1 ∈ bl.map (·.1)
          · obtain ⟨bb, bm, bv⟩ := dV_get fB c
            rw [bv] at hv
            cases hv
            have bo := kq.bo _ bm
            have ilen : bb.2.length ≤ 10 := by
              have h1 : bb.2.length ≤ bsum bl := by
                unfold bsum
                exact le_sum (List.mem_map.mpr ⟨_, bm, rfl⟩)
              have := kk.sz; omega
            refine ⟨_, rfl, _, rfl, fa, _, rfl, gdq, _, rfl, _, rfl, bb.1, _, rfl, DPut.k (k := Sum.inr (parts n).2.2) bo.at' (dV_len' V.ref bb.2 ilen (by omega)), ?_⟩
            rw [show putK (ownV bb.2) (Sum.inr (parts n).2.2) (V.ref a) = ownV (dput bb.2 (parts n).2.2 a) from dV_put V.ref _ _ _]
            exact ⟨_, _, _, _, _, _, L', _, rv, _, rfl, kq.bput bm (ok1 (Tups.trans tf4 (tups_of sq)))⟩
          · rw [dV_no fB c] at hv; cases hv
        · have c : (parts n).1 ∉ bl.map (·.1) := fun c => by
            obtain ⟨bb, bm, bv⟩ := dV_get fB c
            rw [bv] at hn; cases hn
          have e2 : putK (dV fB bl) (Sum.inr (parts n).1) (V.ref q0) = dV fB (dput bl (parts n).1 (q0, [])) := dV_put fB bl (parts n).1 (q0, [])
          rw [e2]
          have nqb : q0 ≠ b := fun z => by rw [z, k1.ba] at hq0; cases hq0
          have nfq : fa ≠ q0 := ne_of_none f1 hq0
          have gd3 : DGet (upd (upd (upd H3 u (.tup [V.str (Txt.partition n "/").1, V.str (Txt.partition n "/").2.1, V.str (Txt.partition n "/").2.2])) q0 (.dK [])) b (.dK (dV fB (dput bl (parts n).1 (q0, []))))) fa (.str n) (some (.ref a)) :=
            .inl ⟨_, Sum.inr n, .inr ⟨od, by rw [upd_ne nfb]; exact (kq.gr.keep sh hsf f0).1⟩, rfl, av.symm⟩
          refine ⟨_, rfl, _, rfl, fa, _, rfl, gd3, _, rfl, _, rfl, q0, _, rfl, DPut.k (k := Sum.inr (parts n).2.2) (by rw [upd_ne nqb]; exact upd_same) (by show 0 < sizeLine; decide), ?_⟩
          exact ⟨_, _, _, _, _, _, L', _, rv, _, rfl, k1.bnew nrb b0 hq0 lo c (ok1 tf4)⟩
    · rintro σ H2 ⟨v4, v5, v6, v7, v8, hs', L', c, rv, bl, rfl, kk⟩
      obtain ⟨f2, h2f⟩ := kk.gr.keep sh hsf f0
      have nofa : ∀ {x : Addr} {kvs : List (Key × V)}, H2 x = some (.dK kvs) → x ≠ fa := fun hx z => by rw [z, f2] at hx; cases hx
      have kg := kk.gr
      rw [eH0] at kg
      have G1 := kg.unlock hfa hsf
      refine ⟨f2, ?_⟩
      obtain ⟨H3, eH3⟩ : ∃ H3, H3 = upd H2 fa (.dK (ownV fs)) := ⟨_, rfl⟩
      rw [← eH3] at G1 ⊢
      have r3 : H3 r = some (.dK (dV V.str rv)) := by rw [eH3, upd_ne (nofa kk.ra)]; exact kk.ra
      have b3 : H3 b = some (.dK (dV fB bl)) := by rw [eH3, upd_ne (nofa kk.ba)]; exact kk.ba
      have t23 : Tups H2 H3 := by rw [eH3]; exact fun x xs e => by rw [upd_ne (ne_of e f2 (fun z => nomatch z))]; exact e
      have bo3 : ∀ x ∈ bl, BOk d H H3 hs' r b x := fun x hx => by
        obtain ⟨z1, z2, z3, z4, z5, z6, z7, z8⟩ := kk.bo x hx
        refine ⟨by rw [eH3, upd_ne (nofa z1)]; exact z1, z2, z3, z4.mono t23, z5, ?_, z7, z8⟩
        rw [eH0, upd_ne (nofa z1)] at z6; exact z6
      have szk := kk.sz
      rw [fl] at szk
      have rlk := kk.rl
      rw [fl] at rlk
      have cost := sum_cost (d := d) szk (fun x hx => (kk.bo x hx).pos)
      have bll : bl.length ≤ bsum bl := bl_len fun x hx => (kk.bo x hx).pos
      refine ⟨b, _, b3, True.intro, fun od2 => ?_⟩
      have bLen : (dV fB bl).length = bl.length := dV_len _ _
      refine ⟨_, rfl, b, od2, rfl, .inl ⟨_, upd_same, for_it walk_keys (fun j σ H' => ∃ (v4 v5 v6 v7 v8 : Option V) (hs4 : Hp) (L4 : Cont) (c4 : Nat) (rv4 : List (Str × Str)), σ = [some (.ref p), some (.ref fa), some (.ref r), some (.ref b), v4, v5, v6, v7, v8] ∧
          Grew Lf5 P w (He.ga K "Pack") (He.ga K "Shelf") p o t g hs H L hs4 H' L4 c4 ∧ c4 ≤ c + ((bl.take j).map fun x => x.2.2.length * d + 1).sum ∧ H' b = some (.frz od2 (.dK (dV fB bl))) ∧ hs4 b = none ∧ H' r = some (.dK (dV V.str rv4)) ∧ hs4 r = none ∧ RowsOk L4 rv4 ∧ rv4.length ≤ fs.length + j ∧ ∀ x ∈ bl, BOk d H H' hs4 r b x)
        ⟨v4, v5, v6, v7, v8, hs', L', c, rv, rfl, G1.mut hb0 kk.bh (fun _ z => nomatch z), by omega, upd_same, kk.bh, by rw [upd_ne nrb]; exact r3, kk.rh, kk.ro, by omega, fun x hx => ?_⟩ (fun _ _ _ _ ⟨_, _, _, _, _, _, _, _, _, _, _, _, q, _⟩ => q) ?_ ?_⟩⟩
      · obtain ⟨z1, z2, z3, z4, z5, z6, z7, z8⟩ := bo3 x hx
        exact ⟨by rw [upd_ne z8]; exact z1, z2, z3, z4.mono (tups_dk b3), z5, z6, z7, z8⟩
      · rintro j x σ H4 H5 hj ⟨v4, v5, v6, v7, v8, hs4, L4, c4, rv4, rfl, G4, hc4, b4, hb4, r4, hr4, ro4, rl4, bo4⟩ ⟨rfl, key, vv, hx, rfl⟩
        rw [bLen] at hj
        obtain ⟨l, bb, e1, rfl, rfl⟩ := dV_ix fB hx
        have bm : (l, bb) ∈ bl := List.mem_of_getElem? e1
        obtain ⟨z1, z2, z3, z4, z5, z6, z7, z8⟩ := bo4 _ bm
        obtain ⟨d', rfl⟩ : ∃ d', d = d' + 1 := by
          cases d with
          | zero =>
            exfalso
            have z5' : 1 ≤ bb.2.length := z5
            cases q : bb.2 with
            | nil => rw [q] at z5'; exact absurd z5' (by decide)
            | cons e r => exact (z4 e (by show e ∈ bb.2; rw [q]; exact List.mem_cons_self)).1.elim
          | succ d' => exact ⟨d', rfl⟩
        have gd : DGet H5 b (.str l) (some (.ref bb.1)) := .inl ⟨_, Sum.inr l, .inr ⟨od2, b4⟩, rfl, (dV_at fB kk.nk e1).symm⟩
        have ilen : bb.2.length ≤ bsum bl := by
          unfold bsum
          exact le_sum (List.mem_map.mpr ⟨_, bm, rfl⟩)
        have tk := sum_take (bl.map fun x => x.2.2.length * (d' + 1) + 1) (j + 1)
        rw [← List.map_take, take_snoc e1, List.map_append, List.sum_append] at tk
        have e1s : ([(l, bb)].map fun x : Str × Addr × Own => x.2.2.length * (d' + 1) + 1).sum = bb.2.length * (d' + 1) + 1 := by show _ + 0 = _; rfl
        rw [e1s] at tk
        have l4 := G4.len
        refine ⟨_, rfl, _, rfl, _, rfl, b, _, rfl, gd, hsp d' rfl _ _ _ _ ⟨p, bb.1, o, t, g, L4, bb.2, hs4, rfl, G4.sub, G4.tup, G4.sh 1 sh, z1, z2, z4, by omega, by omega, fun nm hs5 H6 L5 th G5 m5 l5 => ?_⟩⟩
        have sh4 := G4.sh 1 sh
        obtain ⟨q1, q2⟩ := G5.keep sh4 hr4 r4
        obtain ⟨q3, q4⟩ := G5.keep sh4 hb4 b4
        have tp5 := G5.tups G4.sub sh4
        refine ⟨_, rfl, _, rfl, r, _, rfl, DPut.k (k := Sum.inr l) q1 (dV_len' V.str rv4 rl4 (by omega)), ?_⟩
        rw [dV_put V.str]
        refine ⟨_, _, _, _, _, hs5, L5, _, _, rfl, (G4.trans G5).mut hr0 q2 (fun _ z => nomatch z), ?_, by rw [upd_ne (Ne.symm nrb)]; exact q3, q4, upd_same, q2, (ro4.mono G5.mem).put z3 m5 (.inr l5), ?_, fun x hx => ?_⟩
        · rw [take_snoc e1, List.map_append, List.sum_append, e1s]; omega
        · have := dput_len rv4 l nm; omega
        · obtain ⟨y1, y2, y3, y4, y5, y6, y7, y8⟩ := bo4 x hx
          obtain ⟨x1, x2⟩ := G5.keep sh4 y2 y1
          exact ⟨by rw [upd_ne y7]; exact x1, x2, y3, (y4.mono tp5).mono (tups_dk q1), y5, y6, y7, y8⟩
      · rintro σ H4 ⟨v4, v5, v6, v7, v8, hs4, L4, c4, rv4, rfl, G4, hc4, b4, hb4, r4, hr4, ro4, rl4, bo4⟩
        rw [bLen] at hc4 rl4
        rw [List.take_length] at hc4
        refine ⟨b4, ?_⟩
        have G5 := G4.mut (u := .dK (dV fB bl)) hb0 hb4 (fun _ z => nomatch z)
        have l4 := G4.len
        refine ⟨_, rfl, _, rfl, p, r, o, t, g, L4, rv4, hs4, rfl, G5.sub, G5.tup, G5.sh 1 sh, by rw [upd_ne nrb]; exact r4, ro4, by omega, by omega, fun nm hs6 H6 L6 th G6 m6 l6 => ?_⟩
        exact k nm hs6 H6 L6 th ((G5.trans G6).le (by omega)) m6 l6
theorem ok_grown (T : Tx K mg) : ∀ d, Gf P w K mg base CX0 (20 + d) (He.ga K "grown") ["shelf", "files"] (spGrown P w K d)
  | 0 => grown_body T 0 _ ((grown_no T).mono (by decide)) (fun d' h => by cases h)
  | d + 1 => (grown_body T (d + 1) _ ((ok_grown T d).mono (by omega)) (fun d' h => by cases h; exact fun _ _ _ _ z => z)).mono (by omega)
end
end An

namespace An
open PySem PySem.Spec L2
def PathS (z : Str) : Prop := z.length ≤ 40 ∧ (Txt.split z "/").length ≤ 4 ∧ ∀ l ∈ Txt.split z "/", LabelOk l
def FreeS (ks : List Str) (z : Str) : Prop := ∀ m, 1 ≤ m → m < (Txt.split z "/").length → Txt.join "/" ((Txt.split z "/").take m) ∉ ks
def FilesOk (H : Hp) (fs : Own) : Prop := FsOk 3 H fs ∧ ∀ e ∈ fs, PathS e.1 ∧ FreeS (fs.map (·.1)) e.1
theorem rd_same {H H' : Hp} (s : Same H H') {a : Addr} {u : HO} (h : Rd H a u) : Rd H' a u := by
  rcases h with h | ⟨o, h⟩
  · exact .inl (s _ _ h)
  · exact .inr ⟨o, s _ _ h⟩
section
variable {P : Program} {w : World} {K : PySem.W.Frag} {mg : Str → Option Value} {base : Heap}
/-! ### is_path -/
def spIsPath : Sp := fun vs H Q _ => ∃ z : Str, vs = [.str z] ∧ PathS z ∧ ∀ H', Same H H' → Q (.bl true) H'
theorem sc_is_path : FnScope ["thing", "labels", "label"] ["thing"] (defScope s_is_path) := ⟨rfl, rfl, rfl, by decide +kernel, rfl, by decide +kernel, by decide +kernel⟩
theorem ok_is_path (T : Tx K mg) : Gf P w K mg base CX0 2 (He.ga K "is_path") ["thing"] spIsPath := by
  have G_is_label : Gf P w K mg base CX0 1 _ _ spLabel := ok_is_label T
  refine gf0_of T.d_is_path sc_is_path (fun _ _ _ _ _ _ us hl => match us, hl with | [_], _ => rfl) (fun vs H Q E h => ?_) (fun cdv A outer s H vs Q E hr h => ?_)
  · obtain ⟨z, rfl, _⟩ := h; rfl
  · obtain ⟨z, rfl, ⟨zl, sl, lo⟩, k⟩ := h
    refine ⟨_, pss_cons (ps_if (pt_not (pt_val (pe_callB (r := rIsi K) call_isi rfl T.n_isinstance (by decide +kernel) (pa_cons (pv 0) (pa_cons (pe_tyv "str" T.n_str) pa_nil)))))
        (pss_one (ps_ret pe_bl))
        (pss_nil))
      (pss_cons (ps_set (i := 1) sc_is_path.nd rfl (Or.inl rfl) (pe_split (pv 0) pe_str))
      (pss_one (ps_ret (pe_and (pe_cmpR op_le (pe_callB (r := rLen K) call_len rfl T.n_len (by decide +kernel) (pa_cons (pv 1) pa_nil)) (pe_gv T.i_MOST_LABELS) (nomark _)) (pe_one (pe_callB (r := rAll K) (cr_all rfl) rfl T.n_all (by decide +kernel) (pa_cons (pe_lc (own := [("label", 2)]) (g := gName 2) rfl sc_is_path.nd (pi_list (pv 1)) (blkOk_by (own := [("label", 2)]) (N := ["thing", "labels", "label"]) (sc := defScope s_is_path) (by decide +kernel)) (fun _ _ _ _ _ => pg_name (i := 2) sc_is_path.nd rfl (Or.inl rfl)) (fun _ _ _ _ _ => pts_nil) (fun _ _ _ _ _ => (pe_fn G_is_label (hr.mono (by decide)) T.g_is_label pass0 (pa_cons (pv 2) pa_nil)))) pa_nil))))))), ?_⟩
    refine ⟨_, rfl, _, _, _, _, _, rfl, .ty _, .base (.str _), kit_ty ki_ss, true, rfl, ?_⟩
    refine ⟨_, rfl, ⟨_, rfl⟩, _, _, rfl, rfl, by decide +kernel, le_line (by omega), fun l hl => ?_⟩
    have s1 := same_new (o := .lst ((Txt.split z "/").map V.str)) hl
    refine ⟨_, rfl, _, _, rfl, .inl ⟨_, SqL.of upd_same, rfl⟩, _, _, rfl, rfl, _, rfl, ?_⟩
    refine itep (decide_eq_true (by rw [List.length_map]; omega)) ?_
    refine ⟨_, rfl, l, rfl, ⟨_, SqL.of upd_same⟩, fun D hD => lc_it walk_list (fun i H' => Same (upd H l (.lst ((Txt.split z "/").map V.str))) H' ∧ H' D = some (.lst ((trues i).map V.bl))) ⟨same_new hD, upd_same⟩ (fun _ _ _ q => SqL.of (q.1 _ _ upd_same)) ?_ ?_⟩
    · rintro i x H1 H2 hi ⟨hs, hd⟩ ⟨rfl, hx⟩
      obtain ⟨c, hc, rfl⟩ := map_get hx
      have ic := (List.getElem?_eq_some_iff.mp hc).1
      refine ⟨rfl, _, rfl, c, rfl, lo c (List.mem_of_getElem? hc), fun H3 s3 => ?_⟩
      refine ⟨_, s3 _ _ hd, by rw [trues_len]; exact lt_line (by omega), Same.mut (Same.trans hs s3) hD, ?_⟩
      rw [upd_same, ← trues_snoc]
    · rintro H2 ⟨hs, hd⟩
      refine ⟨D, _, rfl, SqL.of hd, ?_⟩
      rw [trues_all]
      exact k H2 (Same.trans s1 hs)
/-! ### is_free -/
def falses (n : Nat) : List Bool := List.replicate n false
theorem falses_any (n : Nat) : (falses n).any id = false := by unfold falses; simp
theorem falses_snoc (n : Nat) : (falses n).map V.bl ++ [V.bl false] = (falses (n + 1)).map V.bl := by
  unfold falses
  rw [List.replicate_succ', List.map_append]; rfl
theorem falses_len (n : Nat) : ((falses n).map V.bl).length = n := by unfold falses; simp
def spIsFree : Sp := fun vs H Q _ => ∃ (z : Str) (a : Addr) (fs : Own), vs = [.str z, .ref a] ∧ Rd H a (.dK (ownV fs)) ∧ PathS z ∧ FreeS (fs.map (·.1)) z ∧ ∀ H', Same H H' → Q (.bl true) H'
theorem sc_is_free : FnScope ["path", "files", "labels", "many"] ["path", "files"] (defScope s_is_free) := ⟨rfl, rfl, rfl, by decide +kernel, rfl, by decide +kernel, by decide +kernel⟩
theorem ok_is_free (T : Tx K mg) : Gf P w K mg base CX0 2 (He.ga K "is_free") ["path", "files"] spIsFree := by
  refine gf0_of T.d_is_free sc_is_free (fun _ _ _ _ _ _ us hl => match us, hl with | [_, _], _ => rfl) (fun vs H Q E h => ?_) (fun cdv A outer s H vs Q E hr h => ?_)
  · obtain ⟨z, a, fs, rfl, _⟩ := h; rfl
  · obtain ⟨z, a, fs, rfl, hrd, ⟨zl, sl, lo⟩, fr, k⟩ := h
    refine ⟨_, pss_cons (ps_set (i := 2) sc_is_free.nd rfl (Or.inr rfl) (pe_split (pv 0) pe_str))
      (pss_one (ps_ret (pe_not (pe_callB (r := rAny K) (cr_any rfl) rfl T.n_any (by decide +kernel) (pa_cons (pe_lc (own := [("many", 3)]) (g := gName 3) rfl sc_is_free.nd (pi_range2 rfl T.n_range (pa_cons pe_int (pa_cons (pe_callB (r := rLen K) call_len rfl T.n_len (by decide +kernel) (pa_cons (pv 2) pa_nil)) pa_nil))) (blkOk_by (own := [("many", 3)]) (N := ["path", "files", "labels", "many"]) (sc := defScope s_is_free) (by decide +kernel)) (fun _ _ _ _ _ => pg_name (i := 3) sc_is_free.nd rfl (Or.inl rfl)) (fun _ _ _ _ _ => pts_nil) (fun _ _ _ _ _ => (pe_cmp (pc_din (hu_of hr) (pe_joinK (K := K) rfl pe_str (pe_slice (r := rSlL K) sl_list (pv 2) po_none (po_some (pv 3)))) (pv 1)) (by rfl)))) pa_nil))))), ?_⟩
    refine ⟨_, rfl, ⟨_, rfl⟩, _, _, rfl, rfl, by decide +kernel, le_line (by omega), fun l hl => ?_⟩
    have s1 := same_new (o := .lst ((Txt.split z "/").map V.str)) hl
    obtain ⟨lb, elb⟩ : ∃ lb, lb = Txt.split z "/" := ⟨_, rfl⟩
    have e0 : ((Txt.split z "/").map V.str).length = lb.length := by rw [List.length_map, elb]
    refine ⟨_, rfl, _, _, rfl, .inl ⟨_, SqL.of upd_same, rfl⟩, 1, ((lb.length : Nat) : Int), by rw [e0], by rw [elb]; omega, fun D hD => lc_it walk_range (fun i H' => Same (upd H l (.lst ((Txt.split z "/").map V.str))) H' ∧ H' D = some (.lst ((falses i).map V.bl))) ⟨same_new hD, upd_same⟩ (fun _ _ _ _ => trivial) ?_ ?_⟩
    · rintro i x H1 H2 hi ⟨hs, hd⟩ ⟨rfl, hx⟩
      have hx' : x = V.int (1 + ((i : Nat) : Int)) := hx
      subst hx'
      have il : i + 1 < lb.length := by omega
      have cut : cutV ((Txt.split z "/").map V.str) none (some (1 + ((i : Nat) : Int))) = (lb.take (i + 1)).map V.str := by
        rw [show (1 : Int) + ((i : Nat) : Int) = ((i + 1 : Nat) : Int) by omega]
        unfold cutV
        rw [HT.sIx_nat, HT.sIx_none, List.map_take, List.drop_zero, Nat.sub_zero, List.length_map]
        rw [Nat.min_eq_left (by rw [← elb]; omega), elb]
      refine ⟨rfl, ⟨_, rfl⟩, _, rfl, _, rfl, _, rfl, l, _, rfl, SqL.of (hs _ _ upd_same), fun q hq => ?_⟩
      rw [cut]
      have sq := same_new (o := .lst ((lb.take (i + 1)).map V.str)) hq
      have ll : (((lb.take (i + 1)).map (·.length)).sum + (lb.take (i + 1)).length * ("/" : Str).length ≤ 16777216) := by
        have l1 : ("/" : Str).length = 1 := by decide +kernel
        have l2 : (lb.take (i + 1)).length ≤ 4 := by rw [List.length_take, elb]; omega
        have l3 : ((lb.take (i + 1)).map (·.length)).sum ≤ (lb.take (i + 1)).length * 8 := sum_le fun y hy => (lo y (by rw [← elb]; exact List.mem_of_mem_take hy)).2.1
        rw [l1]; omega
      refine ⟨_, q, lb.take (i + 1), rfl, rfl, .inl (SqL.of upd_same), ll, ?_⟩
      have rd2 := rd_same (Same.trans (Same.trans s1 hs) sq) hrd
      refine ⟨_, rfl, a, _, rfl, .inl ⟨_, Sum.inr (Txt.join "/" (lb.take (i + 1))), rd2, rfl, rfl⟩, ?_⟩
      have no : valV (ownV fs) (Sum.inr (Txt.join "/" (lb.take (i + 1)))) = none := dV_no V.ref (by rw [elb]; exact fr (i + 1) (by omega) (by rw [← elb]; exact il))
      rw [no]
      have hdq := sq _ _ hd
      refine ⟨_, hdq, by rw [falses_len]; exact lt_line (by have := sl; rw [← elb] at this; omega), Same.mut (Same.trans hs sq) hD, ?_⟩
      rw [upd_same, ← falses_snoc]; rfl
    · rintro H2 ⟨hs, hd⟩
      refine ⟨D, _, rfl, SqL.of hd, ?_⟩
      rw [falses_any]
      exact ⟨_, rfl, k H2 (Same.trans s1 hs)⟩
end
end An

namespace An
open PySem PySem.Spec L2
section
variable {P : Program} {w : World} {K : PySem.W.Frag} {mg : Str → Option Value} {base : Heap}
/-! ### need_files -/
def spNeedFiles : Sp := fun vs H Q _ => ∃ (a : Addr) (fs : Own), vs = [.ref a] ∧ H a = some (.dK (ownV fs)) ∧ FilesOk H fs ∧ ∀ H', Same H H' → Q .non H'
theorem sc_need_files : FnScope ["files", "path"] ["files"] (defScope s_need_files) := ⟨rfl, rfl, rfl, by decide +kernel, rfl, by decide +kernel, by decide +kernel⟩
theorem ok_need_files (T : Tx K mg) : Gf P w K mg base CX0 3 (He.ga K "need_files") ["files"] spNeedFiles := by
  have G_is_path : Gf P w K mg base CX0 2 _ _ spIsPath := ok_is_path T
  have G_is_lines : Gf P w K mg base CX0 2 _ _ spLines := ok_is_lines T
  have G_is_free : Gf P w K mg base CX0 2 _ _ spIsFree := ok_is_free T
  refine gf0_of T.d_need_files sc_need_files (fun _ _ _ _ _ _ us hl => match us, hl with | [_], _ => rfl) (fun vs H Q E h => ?_) (fun cdv A outer s H vs Q E hr h => ?_)
  · obtain ⟨a, fs, rfl, _⟩ := h; rfl
  · obtain ⟨a, fs, rfl, ha, ⟨ok1, ok2⟩, k⟩ := h
    refine ⟨_, pss_cons (ps_if (pt_not (pt_val (pe_callB (r := rIsi K) call_isi rfl T.n_isinstance (by decide +kernel) (pa_cons (pv 0) (pa_cons (pe_tyv "dict" T.n_dict) pa_nil)))))
        (pss_one (ps_never))
        (pss_nil))
      (pss_cons (ps_lock (ps_for PassesOwn.never rfl (pi_keys (pv 0)) (pg_name (i := 1) sc_need_files.nd rfl (Or.inl rfl))
        (pss_one (ps_if (PW.pt (pw_or (pt_not (pt_val (pe_fn G_is_path (hr.mono (by decide)) T.g_is_path pass0 (pa_cons (pv 1) pa_nil)))) (pw_or1 (pt_not (pt_val (pe_fn G_is_lines (hr.mono (by decide)) T.g_is_lines pass0 (pa_cons (pe_dget (hu_of hr) (pv 0) (pv 1) (fun _ _ => rfl)) pa_nil)))))))
          (pss_one (ps_never))
          (pss_nil)))))
      (pss_one (ps_lock (ps_for PassesOwn.never rfl (pi_keys (pv 0)) (pg_name (i := 1) sc_need_files.nd rfl (Or.inl rfl))
        (pss_one (ps_if (pt_not (pt_val (pe_fn G_is_free (hr.mono (by decide)) T.g_is_free pass0 (pa_cons (pv 1) (pa_cons (pv 0) pa_nil)))))
          (pss_one (ps_never))
          (pss_nil))))))), ?_⟩
    refine ⟨_, rfl, _, _, _, _, _, rfl, .ty _, .base (.dK ha), kit_ty ki_dd, true, rfl, ?_⟩
    refine ⟨a, _, ha, True.intro, fun od => ?_⟩
    have tl := tups_lock (od := od) ha
    refine ⟨_, rfl, a, od, rfl, .inl ⟨_, upd_same, for_it walk_keys (fun i σ H' => ∃ v1, σ = [some (.ref a), v1] ∧ Same (upd H a (.frz od (.dK (ownV fs)))) H') ⟨none, rfl, Same.refl _⟩ (fun _ _ _ _ ⟨_, _, q⟩ => q _ _ upd_same) ?_ ?_⟩⟩
    · rintro i x σ H1 H2 hi ⟨v1, rfl, hs⟩ ⟨rfl, key, vv, hx, rfl⟩
      obtain ⟨n, b, e1, rfl, rfl⟩ := dV_ix V.ref hx
      have em := List.mem_of_getElem? e1
      obtain ⟨q, qm, qv⟩ := dV_get V.ref (show n ∈ fs.map (·.1) from List.mem_map.mpr ⟨_, em, rfl⟩)
      obtain ⟨_, ls, la, lok, _⟩ := ok1 _ qm
      refine ⟨_, rfl, n, rfl, (ok2 _ em).1, fun H3 s3 => ?_⟩
      have s13 := Same.trans hs s3
      refine ⟨true, rfl, ?_⟩
      have gd : DGet H3 a (.str n) (some (.ref q)) := .inl ⟨_, Sum.inr n, .inr ⟨od, s13 _ _ upd_same⟩, rfl, qv.symm⟩
      refine ⟨_, rfl, _, rfl, a, _, rfl, gd, q, ls, rfl, s13 _ _ (tl _ _ la), lok.1, by have := lok.2; omega, fun H4 s4 => ?_⟩
      exact ⟨true, rfl, _, rfl, Same.trans s13 s4⟩
    · rintro σ H1 ⟨v1, rfl, hs⟩
      refine ⟨hs _ _ upd_same, ?_⟩
      have sB := same_unlock ha hs
      obtain ⟨H2, eH2⟩ : ∃ H2, H2 = upd H1 a (.dK (ownV fs)) := ⟨_, rfl⟩
      rw [← eH2] at sB ⊢
      have ha2 := sB _ _ ha
      refine ⟨a, _, ha2, True.intro, fun od2 => ?_⟩
      refine ⟨_, rfl, a, od2, rfl, .inl ⟨_, upd_same, for_it walk_keys (fun i σ H' => ∃ v1, σ = [some (.ref a), v1] ∧ Same (upd H2 a (.frz od2 (.dK (ownV fs)))) H') ⟨v1, rfl, Same.refl _⟩ (fun _ _ _ _ ⟨_, _, q⟩ => q _ _ upd_same) ?_ ?_⟩⟩
      · rintro i x σ H3 H4 hi ⟨v1, rfl, hs3⟩ ⟨rfl, key, vv, hx, rfl⟩
        obtain ⟨n, b, e1, rfl, rfl⟩ := dV_ix V.ref hx
        have em := List.mem_of_getElem? e1
        refine ⟨_, rfl, _, rfl, n, a, fs, rfl, .inr ⟨od2, hs3 _ _ upd_same⟩, (ok2 _ em).1, (ok2 _ em).2, fun H5 s5 => ?_⟩
        exact ⟨true, rfl, _, rfl, Same.trans hs3 s5⟩
      · rintro σ H3 ⟨v1, rfl, hs3⟩
        exact ⟨hs3 _ _ upd_same, k _ (Same.trans sB (same_unlock ha2 hs3))⟩
/-! ### keep_files -/
def spKeepFiles (P : Program) (w : World) (K : PySem.W.Frag) : Sp := fun vs H Q _ => ∃ (p fa o t g : Addr) (L : Cont) (fs : Own) (hs : Hp), vs = [.ref p, .ref fa] ∧ Same hs H ∧ Tups H hs ∧ ShAt P w (He.ga K "Pack") (He.ga K "Shelf") 1 hs p o t g L ∧
  H fa = some (.dK (ownV fs)) ∧ hs fa = none ∧ FilesOk H fs ∧ fs.length ≤ 10 ∧ L.length + fs.length * 3 + 1 ≤ 1000 ∧
  ∀ nm hs' H' L' th, Grew Lf5 P w (He.ga K "Pack") (He.ga K "Shelf") p o t g hs H L hs' H' L' (fs.length * 3 + 1) → (nm, th) ∈ L' → lcode th = 84 → Q (.str nm) H'
theorem sc_keep_files : FnScope ["shelf", "files"] ["shelf", "files"] (defScope s_keep_files) := ⟨rfl, rfl, rfl, by decide +kernel, rfl, by decide +kernel, by decide +kernel⟩
theorem ok_keep_files (T : Tx K mg) : Gf P w K mg base CX0 23 (He.ga K "keep_files") ["shelf", "files"] (spKeepFiles P w K) := by
  have G_need_files : Gf P w K mg base CX0 3 _ _ spNeedFiles := ok_need_files T
  have G_grown : Gf P w K mg base CX0 22 _ _ (spGrown P w K 2) := ok_grown T 2
  refine gf0_of T.d_keep_files sc_keep_files (fun _ _ _ _ _ _ us hl => match us, hl with | [_, _], _ => rfl) (fun vs H Q E h => ?_) (fun cdv A outer s H vs Q E hr h => ?_)
  · obtain ⟨p, fa, o, t, g, L, fs, hs, rfl, _⟩ := h; rfl
  · obtain ⟨p, fa, o, t, g, L, fs, hs, rfl, s0, tp, sh, ha, hf, fok, lf, lL, k⟩ := h
    refine ⟨_, pss_cons (ps_expr (pe_fn G_need_files (hr.mono (by decide)) T.g_need_files pass0 (pa_cons (pv 1) pa_nil)))
      (pss_one (ps_ret (pe_fn G_grown (hr.mono (by decide)) T.g_grown pass0 (pa_cons (pv 0) (pa_cons (pv 1) pa_nil))))), ?_⟩
    refine ⟨_, rfl, fa, fs, rfl, ha, fok, fun H1 s1 => ?_⟩
    have G0 := Grew.same (G := Lf5) (P := P) (w := w) (CP := He.ga K "Pack") (CS := He.ga K "Shelf") (p := p) (o := o) (t := t) (g := g) (L := L) s0 tp s1
    refine ⟨_, rfl, _, rfl, p, fa, o, t, g, L, fs, _, rfl, G0.sub, G0.tup, G0.sh 1 sh, s1 _ _ ha, G0.out fa hf (by rw [ha]; exact fun z => nomatch z), fok.1.mono (tups_of s1), lf, lL, fun nm hs' H' L' th G1 m l => ?_⟩
    exact k nm hs' H' L' th ((G0.trans G1).le (by omega)) m l
end
end An

namespace An
open PySem PySem.Spec L2
/-! ### lists of texts, compared -/
theorem strOk_of {z : Str} (h : ∀ c ∈ z.cps.toList, c < 128) : PyData.strOk z = true := by
  unfold PyData.strOk
  rw [Array.all_eq_true_iff_forall_mem]
  intro c hc
  have := h c (Array.mem_toList_iff.mpr hc)
  exact decide_eq_true (by omega)
theorem line_low {z : Str} (h : LineOk z) : PyData.strOk z = true := strOk_of fun c hc => by have := h.2 c hc; omega
theorem eqvAll_strs : ∀ a b : List Str, PyData.eqvAll (a.map .str) (b.map .str) = decide (a = b)
  | [], [] => rfl
  | [], _ :: _ => rfl
  | _ :: _, [] => rfl
  | x :: a, y :: b => by
    show (x == y && PyData.eqvAll (a.map .str) (b.map .str)) = _
    rw [eqvAll_strs a b]
    by_cases c : x = y
    · subst c
      by_cases d : a = b
      · subst d; simp
      · simp [d]
    · simp [c]
theorem eqv_strs (a b : List Str) : PyData.eqv (.list (a.map .str)) (.list (b.map .str)) = decide (a = b) := eqvAll_strs a b
theorem lay_strs : ∀ {a : List Str}, (∀ z ∈ a, PyData.strOk z = true) → PyData.canLayAll0 (a.map .str) = true
  | [], _ => rfl
  | x :: a, h => by
    show (PyData.strOk x && PyData.canLayAll0 (a.map .str)) = true
    rw [h x List.mem_cons_self, lay_strs fun z hz => h z (List.mem_cons_of_mem _ hz)]; rfl
theorem deep_strs : ∀ a : List Str, PyData.depthAll (a.map .str) = 0
  | [] => rfl
  | x :: a => by
    show max 0 (PyData.depthAll (a.map .str)) = 0
    rw [deep_strs a]; rfl
theorem shaped_strs {a : List Str} (h : ∀ z ∈ a, PyData.strOk z = true) : SeqAt.shaped (.list (a.map .str)) = true := by
  unfold SeqAt.shaped
  have e1 : PyData.canLay0 (.list (a.map .str)) = true := lay_strs h
  have e2 : PyData.depth (.list (a.map .str)) = 1 := by show PyData.depthAll (a.map .str) + 1 = 1; rw [deep_strs]
  rw [e1, e2]; rfl
theorem dpAll_strs {K : PySem.W.Frag} {H : Hp} : ∀ a : List Str, DpAll K H (a.map V.str) (a.map .str)
  | [] => .nil
  | x :: a => .cons (.str x) (dpAll_strs a)
theorem dp_strs {K : PySem.W.Frag} {H : Hp} {p : Addr} {a : List Str} (h : H p = some (.lst (a.map V.str))) : Dp K H (.ref p) (.list (a.map .str)) := .lst (SqL.of h) (dpAll_strs a)
/-- the letters of a name -/
theorem num_low (k : Nat) : ∀ c ∈ (num k).cps.toList, c < 128 := by
  intro c hc
  have e : (num k).cps.toList = TL.numL k := tl_num' k
  rw [e] at hc
  have := TL.numL_digits k c hc
  omega
theorem low_app {a b : Str} (ha : ∀ c ∈ a.cps.toList, c < 128) (hb : ∀ c ∈ b.cps.toList, c < 128) : ∀ c ∈ (a ++ b).cps.toList, c < 128 := by
  intro c hc
  have e : (a ++ b).cps.toList = a.cps.toList ++ b.cps.toList := TL.tl_append a b
  rw [e] at hc
  exact (List.mem_append.mp hc).elim (ha c) (hb c)
theorem name_low {t : Thing} {hd : Str} {k : Nat} (h : HdOk t hd) : ∀ c ∈ (nameOf hd k).cps.toList, c < 128 := by
  obtain ⟨d, _, rfl⟩ := h
  refine low_app (low_app (low_app ?_ (num_low d)) ?_) (num_low k)
  · cases t with
    | leaf ls => show ∀ c ∈ ("L" : Str).cps.toList, c < 128; decide +kernel
    | tree ls => show ∀ c ∈ ("T" : Str).cps.toList, c < 128; decide +kernel
    | note a b c => show ∀ c ∈ ("N" : Str).cps.toList, c < 128; decide +kernel
  · decide +kernel
theorem nm_low {b : Nat} {L : Cont} (N : NmOk b L) {z : Str} (h : z ∈ nms L) : PyData.strOk z = true := by
  obtain ⟨t, m⟩ := mem_nms h
  obtain ⟨hd, k, e, o, _⟩ := N _ m
  have e' : z = nameOf hd k := e
  rw [e']; exact strOk_of (name_low o)
/-! ### picking from a row -/
theorem pick {α : Type} {xs : List α} {i : Int} (h0 : 0 ≤ i) (h1 : i < ((xs.length : Nat) : Int)) : ∃ x ∈ xs, atI xs i = some x := by
  obtain ⟨n, rfl⟩ := Int.eq_ofNat_of_zero_le h0
  have hn : n < xs.length := by omega
  exact ⟨xs[n], List.getElem_mem hn, atI_nat (List.getElem?_eq_getElem hn)⟩
theorem pickS {ys : List Str} {i : Int} (h0 : 0 ≤ i) (h1 : i < ((ys.length : Nat) : Int)) : ∃ y ∈ ys, atI (ys.map V.str) i = some (.str y) := by
  obtain ⟨x, hx, e⟩ := pick (xs := ys.map V.str) h0 (by rw [List.length_map]; exact h1)
  obtain ⟨y, hy, rfl⟩ := List.mem_map.mp hx
  exact ⟨y, hy, e⟩
/-- what a line of the law's leaves is -/
def Ln (z : Str) : Prop := LineOk z ∧ z.length ≠ 5
theorem ln_small {z : Str} (h : (z.length ≤ 4 && z.cps.all fun c => decide (32 ≤ c ∧ c ≤ 126 ∧ c ≠ 37)) = true) : Ln z := by
  have h1 := (Bool.and_eq_true_iff.mp h).1
  have h2 := (Bool.and_eq_true_iff.mp h).2
  have h3 : z.length ≤ 4 := of_decide_eq_true h1
  refine ⟨⟨by omega, fun c hc => ?_⟩, by omega⟩
  have := (Array.all_eq_true_iff_forall_mem.mp h2) c (Array.mem_toList_iff.mp hc)
  exact of_decide_eq_true this
theorem num_ln {k : Nat} (h : k < 1000) : Ln (num k) := by
  have l := TL.numL_len (n := k) (k := 3) (by decide) (by omega)
  have e : (num k).cps.toList = TL.numL k := tl_num' k
  have e2 : (num k).length = (TL.numL k).length := by rw [← e]; exact Array.length_toList.symm
  refine ⟨⟨by omega, fun c hc => ?_⟩, by omega⟩
  rw [e] at hc
  have := TL.numL_digits k c hc
  omega
theorem one_join : ∀ cs : List Nat, (Str.join ("" : Str) (cs.map fun c => (⟨#[c]⟩ : Str))).cps.toList = cs
  | [] => rfl
  | [c] => rfl
  | c :: d :: r => by
    have h := one_join (d :: r)
    show ((⟨#[c]⟩ : Str) ++ ("" : Str) ++ Str.join ("" : Str) ((d :: r).map fun c => (⟨#[c]⟩ : Str))).cps.toList = _
    have e : ∀ a b : Str, (a ++ b).cps.toList = a.cps.toList ++ b.cps.toList := TL.tl_append
    rw [e, e, h]; rfl
end An

namespace An
open PySem PySem.Spec L2
section
variable {P : Program} {w : World} {K : PySem.W.Frag} {mg : Str → Option Value} {base : Heap}
/-! ### cell_at -/
def spCell (K : PySem.W.Frag) : Sp := fun vs H Q _ => ∃ (a : Addr) (k : Nat) (ns : List Int), vs = [.ref a, .int ((k : Nat) : Int)] ∧ SqL K H a (ns.map V.int) ∧ ∀ i : Int, Q (.int i) H
theorem sc_cell_at : FnScope ["_law_script", "_law_k"] ["_law_script", "_law_k"] (defScope s_cell_at) := ⟨rfl, rfl, rfl, by decide +kernel, rfl, by decide +kernel, by decide +kernel⟩
theorem ok_cell_at (T : Tx K mg) : Gf P w K mg base CX0 1 (He.ga K "_law_cell_at") ["_law_script", "_law_k"] (spCell K) := by
  refine gf0_of T.d_cell_at sc_cell_at (fun _ _ _ _ _ _ us hl => match us, hl with | [_, _], _ => rfl) (fun vs H Q E h => ?_) (fun cdv A outer s H vs Q E hr h => ?_)
  · obtain ⟨a, k, ns, rfl, _⟩ := h; rfl
  · obtain ⟨a, k, ns, rfl, h1, q⟩ := h
    refine ⟨_, pss_cons (ps_if (pt_cmpR op_lt (pv 1) (pe_callB (r := rLen K) call_len rfl T.n_len (by decide +kernel) (pa_cons (pv 0) pa_nil)) (nomark _))
        (pss_one (ps_ret (pe_ix (r := rIxL K) ix_list (pv 0) (pv 1) (fun _ _ => rfl))))
        (pss_nil))
      (pss_one (ps_ret pe_int)), ?_⟩
    refine ⟨_, rfl, _, rfl, _, _, rfl, .inl ⟨_, h1, rfl⟩, _, _, rfl, rfl, _, rfl, ?_⟩
    rw [List.length_map]
    by_cases c : k < ns.length
    · refine itep (decide_eq_true (by omega)) ?_
      have e : (ns.map V.int)[k]? = some (V.int ns[k]) := by rw [List.getElem?_map, List.getElem?_eq_getElem c]; rfl
      exact ⟨_, rfl, _, rfl, a, _, _, _, rfl, rfl, h1, atI_nat e, q _⟩
    · refine iten (by simp; omega) ?_
      exact q 0
/-! ### line_by -/
def spLineBy : Sp := fun vs H Q _ => ∃ i : Int, vs = [.int i] ∧ ∀ z H', Same H H' → Ln z → Q (.str z) H'
def signs94 : Str := (" !\"#$&'()*+,-./0123456789:;<=>?@ABCDEFGHIJKLMNOPQRSTUVWXYZ[\\]^_`" : Str) ++ ("abcdefghijklmnopqrstuvwxyz{|}~" : Str)
theorem signs_ok : signs94.length = 94 ∧ ∀ c ∈ signs94.cps.toList, 32 ≤ c ∧ c ≤ 126 ∧ c ≠ 37 := by decide +kernel
theorem sc_line_by : FnScope ["_law_cell", "_law_some", "_law_size", "_law_k"] ["_law_cell"] (defScope s_line_by) := ⟨rfl, rfl, rfl, by decide +kernel, rfl, by decide +kernel, by decide +kernel⟩
theorem ok_line_by (T : Tx K mg) : Gf P w K mg base CX0 1 (He.ga K "_law_line_by") ["_law_cell"] spLineBy := by
  refine gf0_of T.d_line_by sc_line_by (fun _ _ _ _ _ _ us hl => match us, hl with | [_], _ => rfl) (fun vs H Q E h => ?_) (fun cdv A outer s H vs Q E hr h => ?_)
  · obtain ⟨i, rfl, _⟩ := h; rfl
  · obtain ⟨i, rfl, k⟩ := h
    refine ⟨_, pss_cons (ps_set (i := 1) sc_line_by.nd rfl (Or.inr rfl) pe_str)
      (pss_cons (ps_set (i := 1) sc_line_by.nd rfl (Or.inr rfl) (pe_op op_add_str (pv 1) pe_str))
      (pss_cons (ps_set (i := 2) sc_line_by.nd rfl (Or.inl rfl) (pe_op op_mod (pv 0) pe_int))
      (pss_cons (ps_if (pt_cmpR op_eq (pe_op op_mod (pe_op op_fdiv (pv 0) pe_int) pe_int) pe_int (nomark _))
        (pss_one (ps_set (i := 2) sc_line_by.nd rfl (Or.inl rfl) (pe_op op_add pe_int (pe_op op_mod (pe_op op_fdiv (pv 0) pe_int) pe_int))))
        (pss_nil))
      (pss_one (ps_ret (pe_joinK (K := K) rfl pe_str (pe_lc (own := [("_law_k", 3)]) (g := gName 3) rfl sc_line_by.nd (pi_range1 rfl T.n_range (pa_cons (pv 2) pa_nil)) (blkOk_by (own := [("_law_k", 3)]) (N := ["_law_cell", "_law_some", "_law_size", "_law_k"]) (sc := defScope s_line_by) (by decide +kernel)) (fun _ _ _ _ _ => pg_name (i := 3) sc_line_by.nd rfl (Or.inl rfl)) (fun _ _ _ _ _ => pts_nil) (fun _ _ _ _ _ => (pe_ix ix_str (pv 1) (pe_op op_mod (pe_op op_add (pe_op op_add (pe_op op_mul (pe_op op_fdiv (pv 0) pe_int) (pe_op op_add (pv 3) pe_int)) (pe_op op_fdiv (pv 0) pe_int)) (pe_op op_mul pe_int (pv 3))) pe_int) (fun _ _ => rfl)))))))))), ?_⟩
    refine ⟨_, rfl, _, _, rfl, rfl, by decide +kernel, ?_⟩
    obtain ⟨S, eS⟩ : ∃ S, S = signs94 := ⟨_, rfl⟩
    obtain ⟨sl, sc⟩ := signs_ok
    rw [← eS] at sl sc
    change Ends.nx _ [some (.int i), some (.str signs94), none, none] _
    rw [← eS]
    refine ⟨_, rfl, _, _, rfl, rfl, (by show (0 : Int) < _; decide), ?_⟩
    refine ⟨_, rfl, _, _, rfl, rfl, ⟨by decide, by decide⟩, _, _, rfl, rfl, (by show (0 : Int) < _; decide), rfl, _, rfl, ?_⟩
    by_cases c : i / 4 % 9 = 1
    · refine itep (decide_eq_true (show V.int (i / 4 % 9) = V.int 1 by rw [c])) ?_
      refine ⟨_, rfl, _, _, rfl, rfl, ⟨by decide, by decide⟩, _, _, rfl, rfl, (by show (0 : Int) < _; decide), _, _, rfl, rfl, ?_⟩
      obtain ⟨N, eN⟩ : ∃ N : Int, N = 17 + i / 36 % 4 := ⟨_, rfl⟩
      change Ends.nx _ [some (.int i), some (.str S), some (.int (17 + i / 36 % 4)), none] _
      rw [← eN]
      have hN : 0 ≤ N ∧ N ≤ 20 ∧ N ≠ 5 := by omega
      refine ⟨⟨_, rfl⟩, _, rfl, N, rfl, by omega, by omega, fun D hD => lc_it walk_range (fun j H' => Same H H' ∧ ∃ cs : List Nat, H' D = some (.lst (cs.map fun c => V.str ⟨#[c]⟩)) ∧ cs.length = j ∧ ∀ c ∈ cs, 32 ≤ c ∧ c ≤ 126 ∧ c ≠ 37) ⟨same_new hD, [], upd_same, rfl, fun _ h => (nomatch h)⟩ (fun _ _ _ _ => trivial) ?_ ?_⟩
      · rintro j x H1 H2 hj ⟨hs, cs, hd, hl, hc⟩ ⟨rfl, hx⟩
        subst hx
        obtain ⟨c, hcm, hat⟩ := pick (xs := S.cps.toList) (i := (i / 4 * (0 + ((j : Nat) : Int) + 1) + i / 7 + 5 * (0 + ((j : Nat) : Int))) % 94) (by omega) (by have : S.cps.toList.length = S.length := Array.length_toList; omega)
        refine ⟨rfl, _, rfl, _, rfl, _, _, rfl, rfl, ⟨by decide, by decide⟩, _, rfl, _, _, rfl, rfl, _, _, rfl, rfl, .inr ⟨by omega, by omega⟩, _, rfl, _, _, rfl, rfl, ⟨by decide, by decide⟩, _, _, rfl, rfl, _, rfl, _, _, rfl, rfl, .inl ⟨by decide, by decide⟩, _, _, rfl, rfl, _, _, rfl, rfl, (by show (0 : Int) < _; decide), _, _, c, rfl, rfl, le_line (by omega), hat, ?_⟩
        refine ⟨_, hd, lt_line (by rw [List.length_map]; omega), Same.mut hs hD, cs ++ [c], ?_, by rw [List.length_append, hl]; rfl, fun x hx => ?_⟩
        · rw [upd_same, List.map_append]; rfl
        · rcases List.mem_append.mp hx with q | q
          · exact hc x q
          · rw [List.mem_singleton.mp q]; exact sc c hcm
      · rintro H1 ⟨hs, cs, hd, hl, hc⟩
        have ej : ((cs.map fun c => (⟨#[c]⟩ : Str)).map V.str) = cs.map fun c => V.str ⟨#[c]⟩ := by rw [List.map_map]; rfl
        rw [← ej] at hd
        have e1 : ("" : Str).length = 0 := by decide +kernel
        have lsum : ((cs.map fun c => (⟨#[c]⟩ : Str)).map (·.length)).sum ≤ (cs.map fun c => (⟨#[c]⟩ : Str)).length * 1 := sum_le fun z hz => by
          obtain ⟨c, _, rfl⟩ := List.mem_map.mp hz
          exact Nat.le_refl _
        rw [List.length_map] at lsum
        have jn := one_join cs
        have jl : (Str.join ("" : Str) (cs.map fun c => (⟨#[c]⟩ : Str))).length = cs.length := by
          rw [← congrArg List.length jn]; exact Array.length_toList.symm
        refine ⟨_, D, _, rfl, rfl, .inl (SqL.of hd), by rw [List.length_map, e1]; omega, ?_⟩
        refine k _ H1 hs ?_
        rw [TL.join_eq]
        refine ⟨⟨by rw [jl]; omega, fun c hcm => ?_⟩, by rw [jl]; omega⟩
        rw [jn] at hcm
        exact hc c hcm
    · refine iten (ne_i c) ?_
      obtain ⟨N, eN⟩ : ∃ N : Int, N = i % 4 := ⟨_, rfl⟩
      change Ends.nx _ [some (.int i), some (.str S), some (.int (i % 4)), none] _
      rw [← eN]
      have hN : 0 ≤ N ∧ N ≤ 20 ∧ N ≠ 5 := by omega
      refine ⟨⟨_, rfl⟩, _, rfl, N, rfl, by omega, by omega, fun D hD => lc_it walk_range (fun j H' => Same H H' ∧ ∃ cs : List Nat, H' D = some (.lst (cs.map fun c => V.str ⟨#[c]⟩)) ∧ cs.length = j ∧ ∀ c ∈ cs, 32 ≤ c ∧ c ≤ 126 ∧ c ≠ 37) ⟨same_new hD, [], upd_same, rfl, fun _ h => (nomatch h)⟩ (fun _ _ _ _ => trivial) ?_ ?_⟩
      · rintro j x H1 H2 hj ⟨hs, cs, hd, hl, hc⟩ ⟨rfl, hx⟩
        subst hx
        obtain ⟨c, hcm, hat⟩ := pick (xs := S.cps.toList) (i := (i / 4 * (0 + ((j : Nat) : Int) + 1) + i / 7 + 5 * (0 + ((j : Nat) : Int))) % 94) (by omega) (by have : S.cps.toList.length = S.length := Array.length_toList; omega)
        refine ⟨rfl, _, rfl, _, rfl, _, _, rfl, rfl, ⟨by decide, by decide⟩, _, rfl, _, _, rfl, rfl, _, _, rfl, rfl, .inr ⟨by omega, by omega⟩, _, rfl, _, _, rfl, rfl, ⟨by decide, by decide⟩, _, _, rfl, rfl, _, rfl, _, _, rfl, rfl, .inl ⟨by decide, by decide⟩, _, _, rfl, rfl, _, _, rfl, rfl, (by show (0 : Int) < _; decide), _, _, c, rfl, rfl, le_line (by omega), hat, ?_⟩
        refine ⟨_, hd, lt_line (by rw [List.length_map]; omega), Same.mut hs hD, cs ++ [c], ?_, by rw [List.length_append, hl]; rfl, fun x hx => ?_⟩
        · rw [upd_same, List.map_append]; rfl
        · rcases List.mem_append.mp hx with q | q
          · exact hc x q
          · rw [List.mem_singleton.mp q]; exact sc c hcm
      · rintro H1 ⟨hs, cs, hd, hl, hc⟩
        have ej : ((cs.map fun c => (⟨#[c]⟩ : Str)).map V.str) = cs.map fun c => V.str ⟨#[c]⟩ := by rw [List.map_map]; rfl
        rw [← ej] at hd
        have e1 : ("" : Str).length = 0 := by decide +kernel
        have lsum : ((cs.map fun c => (⟨#[c]⟩ : Str)).map (·.length)).sum ≤ (cs.map fun c => (⟨#[c]⟩ : Str)).length * 1 := sum_le fun z hz => by
          obtain ⟨c, _, rfl⟩ := List.mem_map.mp hz
          exact Nat.le_refl _
        rw [List.length_map] at lsum
        have jn := one_join cs
        have jl : (Str.join ("" : Str) (cs.map fun c => (⟨#[c]⟩ : Str))).length = cs.length := by
          rw [← congrArg List.length jn]; exact Array.length_toList.symm
        refine ⟨_, D, _, rfl, rfl, .inl (SqL.of hd), by rw [List.length_map, e1]; omega, ?_⟩
        refine k _ H1 hs ?_
        rw [TL.join_eq]
        refine ⟨⟨by rw [jl]; omega, fun c hcm => ?_⟩, by rw [jl]; omega⟩
        rw [jn] at hcm
        exact hc c hcm
end
end An

namespace An
open PySem PySem.Spec L2
theorem cut_take {ls : List Str} {a : Nat} (h : a ≤ ls.length) : cutV (ls.map V.str) none (some ((a : Nat) : Int)) = (ls.take a).map V.str := by
  unfold cutV
  rw [HT.sIx_nat, HT.sIx_none, List.length_map, List.map_take, List.drop_zero, Nat.sub_zero, Nat.min_eq_left h]
theorem p0 {n : Int} (h : 0 < n := by decide) : 0 < n := h
theorem cd {i j : Int} (h1 : 0 < j := by decide) (h2 : j < 1073741824 := by decide) : CDiv i j := ⟨h1, h2⟩
section
variable {P : Program} {w : World} {K : PySem.W.Frag} {mg : Str → Option Value} {base : Heap}
/-! ### lines_near -/
def spNear : Sp := fun vs H Q _ => ∃ (q : Addr) (i : Int) (ls : List Str), vs = [.ref q, .int i] ∧ LsAt H q ls ∧ (∀ l ∈ ls, Ln l) ∧ ls.length ≤ 900 ∧ ∀ q' ls' H', Same H H' → LsAt H' q' ls' → (∀ l ∈ ls', Ln l) → ls'.length ≤ ls.length + 2 → Q (.ref q') H'
theorem sc_lines_near : FnScope ["_law_lines", "_law_cell", "_law_row", "_law_turn", "_law_at", "_law_line"] ["_law_lines", "_law_cell"] (defScope s_lines_near) := ⟨rfl, rfl, rfl, by decide +kernel, rfl, by decide +kernel, by decide +kernel⟩
theorem ok_lines_near (T : Tx K mg) : Gf P w K mg base CX0 2 (He.ga K "_law_lines_near") ["_law_lines", "_law_cell"] spNear := by
  have G_line_by : Gf P w K mg base CX0 1 _ _ spLineBy := ok_line_by T
  refine gf0_of T.d_lines_near sc_lines_near (fun _ _ _ _ _ _ us hl => match us, hl with | [_, _], _ => rfl) (fun vs H Q E h => ?_) (fun cdv A outer s H vs Q E hr h => ?_)
  · obtain ⟨q, i, ls, rfl, _⟩ := h; rfl
  · obtain ⟨q, i, ls, rfl, h1, hl, ll, k⟩ := h
    refine ⟨_, pss_cons (ps_set (i := 2) sc_lines_near.nd rfl (Or.inl rfl) (pe_callTy (r := rListK K) call_list_of rfl T.n_list (by decide +kernel) (pa_cons (pv 0) pa_nil)))
      (pss_cons (ps_for PassesOwn.never rfl (pi_range1 rfl T.n_range (pa_cons (pe_op op_mod (pv 1) pe_int) pa_nil)) (pg_name (i := 3) sc_lines_near.nd rfl (Or.inl rfl))
        (pss_cons (ps_set (i := 4) sc_lines_near.nd rfl (Or.inl rfl) (pe_op op_mod (pe_op op_add (pe_op op_fdiv (pv 1) pe_int) (pe_op op_mul pe_int (pv 3))) (pe_op op_add (pe_callB (r := rLen K) call_len rfl T.n_len (by decide +kernel) (pa_cons (pv 2) pa_nil)) pe_int)))
        (pss_cons (ps_set (i := 5) sc_lines_near.nd rfl (Or.inl rfl) (pe_ix (r := rIxL K) ix_list (pe_lst (pa_cons pe_str (pa_cons pe_str (pa_cons pe_str (pa_cons pe_str (pa_cons pe_str (pa_cons (pe_fn G_line_by (hr.mono (by decide)) T.g_line_by pass0 (pa_cons (pe_op op_fdiv (pv 1) pe_int) pa_nil)) pa_nil))))))) (pe_op op_mod (pe_op op_add (pe_op op_fdiv (pv 1) pe_int) (pv 3)) pe_int) (fun _ _ => rfl)))
        (pss_one (ps_if (pt_cmpR op_eq (pe_op op_mod (pe_op op_fdiv (pv 1) pe_int) pe_int) (pe_op op_mod (pv 3) pe_int) (nomark _))
          (pss_one (ps_set (i := 2) sc_lines_near.nd rfl (Or.inl rfl) (pe_op op_cat (pe_op op_cat (pe_slice (r := rSlL K) sl_list (pv 2) po_none (po_some (pv 4))) (pe_lst (pa_cons (pv 5) pa_nil))) (pe_slice (r := rSlL K) sl_list (pv 2) (po_some (pv 4)) po_none))))
          (pss_one (ps_set (i := 2) sc_lines_near.nd rfl (Or.inl rfl) (pe_op op_cat (pe_slice (r := rSlL K) sl_list (pv 2) po_none (po_some (pv 4))) (pe_slice (r := rSlL K) sl_list (pv 2) (po_some (pe_op op_add (pv 4) pe_int)) po_none)))))))))
      (pss_one (ps_ret (pe_callTy (r := rTupK K) call_tuple_of rfl T.n_tuple (by decide +kernel) (pa_cons (pv 2) pa_nil))))), ?_⟩
    refine ⟨_, rfl, q, _, rfl, .inr (SqT.of h1), fun l0 hl0 => ?_⟩
    refine ⟨_, rfl, _, _, rfl, rfl, p0, _, rfl, by omega, by omega, for_it walk_range (fun t σ H' => ∃ (l : Addr) (rows : List Str) (v3 v4 v5 : Option V), σ = [some (.ref q), some (.int i), some (.ref l), v3, v4, v5] ∧ Same H H' ∧ H' l = some (.lst (rows.map V.str)) ∧ (∀ z ∈ rows, Ln z) ∧ rows.length ≤ ls.length + t)
      ⟨l0, ls, none, none, none, rfl, same_new hl0, upd_same, hl, Nat.le_refl _⟩ (fun _ _ _ _ _ => trivial) ?_ ?_⟩
    · rintro t x σ H1 H2 ht ⟨l, rows, v3, v4, v5, rfl, hs, hd, hln, hlen⟩ ⟨rfl, hx⟩
      have hx' : x = V.int (0 + ((t : Nat) : Int)) := hx
      subst hx'
      have rl : rows.length ≤ 1000 := by omega
      refine ⟨_, rfl, _, _, rfl, rfl, cd, _, rfl, _, _, rfl, rfl, .inl ⟨by decide, by decide⟩, _, _, rfl, rfl, _, rfl, _, _, rfl, .inl ⟨_, SqL.of hd, rfl⟩, _, _, rfl, rfl, _, _, rfl, rfl, p0 (by rw [List.length_map]; omega), ?_⟩
      obtain ⟨a, ea⟩ : ∃ a : Nat, (i / 3 + 5 * (0 + ((t : Nat) : Int))) % (((rows.map V.str).length : Nat) + 1) = ((a : Nat) : Int) := Int.eq_ofNat_of_zero_le (Int.emod_nonneg _ (by omega))
      have al : a ≤ rows.length := by
        have := Int.emod_lt_of_pos (i / 3 + 5 * (0 + ((t : Nat) : Int))) (b := (((rows.map V.str).length : Nat) + 1 : Int)) (by omega)
        rw [ea, List.length_map] at this
        omega
      change Ends.nx _ [some (.ref q), some (.int i), some (.ref l), some (.int (0 + ((t : Nat) : Int))), some (.int ((i / 3 + 5 * (0 + ((t : Nat) : Int))) % (((rows.map V.str).length : Nat) + 1))), v5] _
      rw [ea]
      refine ⟨_, rfl, _, _, rfl, rfl, cd, _, rfl, fun z H3 s3 lz => ?_⟩
      refine ⟨by show 6 ≤ sizeLine; decide, fun u hu => ?_⟩
      have hs3 := Same.trans hs s3
      have su := same_new (o := .lst [V.str "a", V.str "b", V.str "", V.str "cd", V.str "zz", V.str z]) hu
      obtain ⟨y, hy, hat⟩ := pickS (ys := ["a", "b", "", "cd", "zz", z]) (i := (i / 11 + (0 + ((t : Nat) : Int))) % 6) (by omega) (by show _ < ((6 : Nat) : Int); omega)
      have ly : Ln y := by
        simp only [List.mem_cons, List.not_mem_nil, or_false] at hy
        rcases hy with rfl | rfl | rfl | rfl | rfl | rfl
        · exact ln_small (by decide +kernel)
        · exact ln_small (by decide +kernel)
        · exact ln_small (by decide +kernel)
        · exact ln_small (by decide +kernel)
        · exact ln_small (by decide +kernel)
        · exact lz
      refine ⟨_, rfl, _, _, rfl, rfl, cd, _, rfl, _, _, rfl, rfl, _, _, rfl, rfl, p0, u, _, _, _, rfl, rfl, SqL.of upd_same, hat, ?_⟩
      have hsu := Same.trans hs3 su
      have hdu := su _ _ (s3 _ _ hd)
      obtain ⟨H4, eH4⟩ : ∃ H4, H4 = upd H3 u (.lst [V.str "a", V.str "b", V.str "", V.str "cd", V.str "zz", V.str z]) := ⟨_, rfl⟩
      rw [← eH4] at hsu hdu
      change Ends.nx _ [some (.ref q), some (.int i), some (.ref l), some (.int (0 + ((t : Nat) : Int))), some (.int ((a : Nat) : Int)), some (.str y)] (upd H3 u (.lst [V.str "a", V.str "b", V.str "", V.str "cd", V.str "zz", V.str z]))
      rw [← eH4]
      refine ⟨_, rfl, _, _, rfl, rfl, cd, _, _, rfl, rfl, p0, _, rfl, _, _, rfl, rfl, p0, rfl, _, rfl, ?_⟩
      by_cases c : i / 2 % 2 = (0 + ((t : Nat) : Int)) % 2
      · refine itep (decide_eq_true (show V.int (i / 2 % 2) = V.int ((0 + ((t : Nat) : Int)) % 2) by rw [c])) ?_
        refine ⟨_, rfl, _, rfl, _, rfl, l, _, rfl, SqL.of hdu, fun p1 hp1 => ?_⟩
        have q1 := same_new (o := .lst (cutV (rows.map V.str) none (some ((a : Nat) : Int)))) hp1
        refine ⟨_, rfl, by show 1 ≤ sizeLine; decide, fun p2 hp2 => ?_⟩
        have q2 := Same.new (o := .lst [V.str y]) q1 hp2
        have n12 : p1 ≠ p2 := ne_of_none upd_same hp2
        refine ⟨p1, p2, _, _, rfl, rfl, by rw [upd_ne n12]; exact upd_same, upd_same, le_line (by rw [cut_take al, List.length_map, List.length_take]; show _ + 1 ≤ _; omega), fun p3 hp3 => ?_⟩
        have q3 := Same.new (o := .lst (cutV (rows.map V.str) none (some ((a : Nat) : Int)) ++ [V.str y])) q2 hp3
        refine ⟨_, rfl, _, rfl, _, rfl, l, _, rfl, SqL.of (q3 _ _ hdu), fun p4 hp4 => ?_⟩
        have q4 := Same.new (o := .lst (cutV (rows.map V.str) (some ((a : Nat) : Int)) none)) q3 hp4
        have n34 : p3 ≠ p4 := ne_of_none upd_same hp4
        refine ⟨p3, p4, _, _, rfl, rfl, by rw [upd_ne n34]; exact upd_same, upd_same, le_line (by rw [cut_take al, cut_drop, List.length_append, List.length_map, List.length_map, List.length_take, List.length_drop]; show _ + 1 + _ ≤ _; omega), fun p5 hp5 => ?_⟩
        refine ⟨p5, rows.take a ++ [y] ++ rows.drop a, _, _, _, rfl, Same.trans hsu (Same.new q4 hp5), ?_, fun x hx => ?_, ?_⟩
        · rw [upd_same, cut_take al, cut_drop, List.map_append, List.map_append]; rfl
        · rcases List.mem_append.mp hx with z1 | z1
          · rcases List.mem_append.mp z1 with z2 | z2
            · exact hln x (List.mem_of_mem_take z2)
            · rw [List.mem_singleton.mp z2]; exact ly
          · exact hln x (List.mem_of_mem_drop z1)
        · rw [List.length_append, List.length_append, List.length_take, List.length_drop]; show _ + 1 + _ ≤ _; omega
      · refine iten (ne_i c) ?_
        refine ⟨_, rfl, _, rfl, _, rfl, l, _, rfl, SqL.of hdu, fun p1 hp1 => ?_⟩
        have q1 := same_new (o := .lst (cutV (rows.map V.str) none (some ((a : Nat) : Int)))) hp1
        refine ⟨_, rfl, _, rfl, _, _, rfl, rfl, _, rfl, l, _, rfl, SqL.of (q1 _ _ hdu), fun p2 hp2 => ?_⟩
        have ea1 : ((a : Nat) : Int) + 1 = ((a + 1 : Nat) : Int) := by omega
        have q2 := Same.new (o := .lst (cutV (rows.map V.str) (some (((a : Nat) : Int) + 1)) none)) q1 hp2
        have n12 : p1 ≠ p2 := ne_of_none upd_same hp2
        refine ⟨p1, p2, _, _, rfl, rfl, by rw [upd_ne n12]; exact upd_same, upd_same, le_line (by rw [ea1, cut_take al, cut_drop, List.length_map, List.length_map, List.length_take, List.length_drop]; omega), fun p3 hp3 => ?_⟩
        refine ⟨p3, rows.take a ++ rows.drop (a + 1), _, _, _, rfl, Same.trans hsu (Same.new q2 hp3), ?_, fun x hx => ?_, ?_⟩
        · rw [upd_same, ea1, cut_take al, cut_drop, List.map_append]
        · rcases List.mem_append.mp hx with z1 | z1
          · exact hln x (List.mem_of_mem_take z1)
          · exact hln x (List.mem_of_mem_drop z1)
        · rw [List.length_append, List.length_take, List.length_drop]; omega
    · rintro σ H1 ⟨l, rows, v3, v4, v5, rfl, hs, hd, hln, hlen⟩
      refine ⟨_, rfl, l, _, rfl, .inl ⟨SqL.of hd, fun p hp => ?_⟩⟩
      exact k p rows _ (Same.new hs hp) upd_same hln (by omega)
end
end An

namespace An
open PySem PySem.Spec L2
/-! ### rows of leaves -/
def LfAt (H : Hp) : List Addr → List (List Str) → Prop := Paired fun a ls => ThAt H a (.leaf ls)
theorem LfAt.mono {H H' : Hp} (s : Tups H H') {as : List Addr} {lss : List (List Str)} (h : LfAt H as lss) : LfAt H' as lss := Paired.mapP h fun _ _ e => e.mono s
def leafD (ls : List Str) : PyData := .tuple [.str "leaf", .tuple (ls.map .str)]
theorem dp_leaves {K : PySem.W.Frag} {H : Hp} : ∀ {as : List Addr} {lss : List (List Str)}, LfAt H as lss → DpAll K H (as.map V.ref) (lss.map leafD)
  | _, _, .nil => .nil
  | _, _, .cons ⟨q, h1, h2⟩ t => .cons (.tup (SqT.of h1) (.cons (.str _) (.cons (.tup (SqT.of h2) (dpAll_strs _)) .nil))) (dp_leaves t)
theorem lay_leaves : ∀ {lss : List (List Str)}, (∀ ls ∈ lss, ∀ l ∈ ls, Ln l) → PyData.canLayAll0 (lss.map leafD) = true ∧ PyData.depthAll (lss.map leafD) ≤ 2
  | [], _ => ⟨rfl, Nat.zero_le _⟩
  | ls :: r, h => by
    obtain ⟨h1, h2⟩ := lay_leaves fun x hx => h x (List.mem_cons_of_mem _ hx)
    have e1 : PyData.canLay0 (leafD ls) = true := by
      show (PyData.strOk ("leaf" : Str) && (PyData.canLay0 (.tuple (ls.map .str)) && PyData.canLayAll0 [])) = true
      have e : PyData.canLay0 (.tuple (ls.map .str)) = true := lay_strs fun z hz => line_low (h ls List.mem_cons_self z hz).1
      rw [e, show PyData.strOk ("leaf" : Str) = true by decide +kernel]; rfl
    have e2 : PyData.depth (leafD ls) = 2 := by
      show max 0 (max (PyData.depthAll (ls.map .str) + 1) 0) + 1 = 2
      rw [deep_strs]; rfl
    constructor
    · show (PyData.canLay0 (leafD ls) && PyData.canLayAll0 (r.map leafD)) = true
      rw [e1, h1]; rfl
    · show max (PyData.depth (leafD ls)) (PyData.depthAll (r.map leafD)) ≤ 2
      rw [e2]; omega
theorem shaped_leaves {lss : List (List Str)} (h : ∀ ls ∈ lss, ∀ l ∈ ls, Ln l) : SeqAt.shaped (.list (lss.map leafD)) = true := by
  obtain ⟨h1, h2⟩ := lay_leaves h
  unfold SeqAt.shaped
  have e1 : PyData.canLay0 (.list (lss.map leafD)) = true := h1
  have e2 : PyData.depth (.list (lss.map leafD)) ≤ 64 := by show PyData.depthAll (lss.map leafD) + 1 ≤ 64; omega
  rw [e1, decide_eq_true e2]; rfl
theorem eqv_nil (ds : List PyData) : PyData.eqv (.list ds) (.list []) = decide (ds = []) := by
  cases ds with
  | nil => rfl
  | cons a r => rfl
section
variable {P : Program} {w : World} {K : PySem.W.Frag} {mg : Str → Option Value} {base : Heap}
/-! ### leaf_by -/
def spLeafBy : Sp := fun vs H Q _ => ∃ (lv : Addr) (i : Int) (as : List Addr) (lss : List (List Str)) (m : Nat), vs = [.ref lv, .int i] ∧ H lv = some (.lst (as.map V.ref)) ∧ LfAt H as lss ∧ (∀ ls ∈ lss, (∀ l ∈ ls, Ln l) ∧ ls.length ≤ m) ∧ 6 ≤ m ∧ m ≤ 900 ∧ lss.length ≤ 1000 ∧
  ∀ a ls H', Same H H' → ThAt H' a (.leaf ls) → (∀ l ∈ ls, Ln l) → ls.length ≤ m + 2 → Q (.ref a) H'
theorem sc_leaf_by : FnScope ["_law_leaves", "_law_cell", "_law_some", "_law_k"] ["_law_leaves", "_law_cell"] (defScope s_leaf_by) := ⟨rfl, rfl, rfl, by decide +kernel, rfl, by decide +kernel, by decide +kernel⟩
theorem ok_leaf_by (T : Tx K mg) : Gf P w K mg base CX0 3 (He.ga K "_law_leaf_by") ["_law_leaves", "_law_cell"] spLeafBy := by
  have G_lines_near : Gf P w K mg base CX0 2 _ _ spNear := ok_lines_near T
  refine gf0_of T.d_leaf_by sc_leaf_by (fun _ _ _ _ _ _ us hl => match us, hl with | [_, _], _ => rfl) (fun vs H Q E h => ?_) (fun cdv A outer s H vs Q E hr h => ?_)
  · obtain ⟨lv, i, as, lss, m, rfl, _⟩ := h; rfl
  · obtain ⟨lv, i, as, lss, m, rfl, h1, lf, lok, m6, m9, ll, k⟩ := h
    refine ⟨_, pss_cons (ps_if (PW.pt (pw_or (pt_cmpR op_eq (pe_op op_mod (pv 1) pe_int) pe_int (nomark _)) (pw_or1 (pt_cmpR (r := rEqD K) (op_eqD hr.units) (pv 0) (pe_lst pa_nil) (nomark _)))))
        (pss_cons (ps_set (i := 2) sc_leaf_by.nd rfl (Or.inr rfl) (pe_lst (pa_cons pe_str (pa_cons pe_str (pa_cons pe_str (pa_cons pe_str pa_nil))))))
        (pss_one (ps_ret (pe_tup (pa_cons pe_str (pa_cons (pe_callTy (r := rTupK K) call_tuple_of rfl T.n_tuple (by decide +kernel) (pa_cons (pe_lc (own := [("_law_k", 3)]) (g := gName 3) rfl sc_leaf_by.nd (pi_range1 rfl T.n_range (pa_cons (pe_op op_mod (pe_op op_fdiv (pv 1) pe_int) pe_int) pa_nil)) (blkOk_by (own := [("_law_k", 3)]) (N := ["_law_leaves", "_law_cell", "_law_some", "_law_k"]) (sc := defScope s_leaf_by) (by decide +kernel)) (fun _ _ _ _ _ => pg_name (i := 3) sc_leaf_by.nd rfl (Or.inl rfl)) (fun _ _ _ _ _ => pts_nil) (fun _ _ _ _ _ => (pe_ix (r := rIxL K) ix_list (pv 2) (pe_op op_mod (pe_op op_add (pe_op op_fdiv (pv 1) pe_int) (pe_op op_mul (pv 3) (pe_op op_mod (pe_op op_fdiv (pv 1) pe_int) pe_int))) pe_int) (fun _ _ => rfl)))) pa_nil)) pa_nil))))))
        (pss_nil))
      (pss_one (ps_ret (pe_tup (pa_cons pe_str (pa_cons (pe_fn G_lines_near (hr.mono (by decide)) T.g_lines_near pass0 (pa_cons (pe_ix (r := rIxT K) ix_tup (pe_ix (r := rIxL K) ix_list (pv 0) (pe_op op_mod (pe_op op_fdiv (pv 1) pe_int) (pe_callB (r := rLen K) call_len rfl T.n_len (by decide +kernel) (pa_cons (pv 0) pa_nil))) (fun _ _ => rfl)) pe_int (fun _ _ => rfl)) (pa_cons (pe_op op_fdiv (pv 1) pe_int) pa_nil))) pa_nil))))), ?_⟩
    have al := Paired.length lf
    refine ⟨_, rfl, _, _, rfl, rfl, p0, rfl, _, rfl, ?_⟩
    by_cases c : i % 4 = 0
    · refine itep (decide_eq_true (show V.int (i % 4) = V.int 0 by rw [c])) ?_
      obtain ⟨Hc, eHc⟩ : ∃ Hc, Hc = H := ⟨_, rfl⟩
      have q0 : Same H Hc := by rw [eHc]; exact Same.refl _
      rw [← eHc]
      refine ⟨by show 4 ≤ sizeLine; decide, fun s1 hs1 => ?_⟩
      have q1 := Same.new (o := .lst [V.str "a", V.str "b", V.str "", V.str "cd"]) q0 hs1
      refine ⟨_, rfl, _, _, rfl, rfl, cd, _, _, rfl, rfl, p0, _, rfl, by omega, by omega, fun D hD => lc_it walk_range (fun j H' => Same (upd Hc s1 (.lst [V.str "a", V.str "b", V.str "", V.str "cd"])) H' ∧ ∃ rows : List Str, H' D = some (.lst (rows.map V.str)) ∧ rows.length = j ∧ ∀ z ∈ rows, Ln z) ⟨same_new hD, [], upd_same, rfl, fun _ h => (nomatch h)⟩ (fun _ _ _ _ => trivial) ?_ ?_⟩
      · rintro j x H1 H2 hj ⟨hs, rows, hd, hl, hc⟩ ⟨rfl, hx⟩
        subst hx
        obtain ⟨y, hy, hat⟩ := pickS (ys := ["a", "b", "", "cd"]) (i := (i / 4 + (0 + ((j : Nat) : Int)) * (i / 28 % 4)) % 4) (Int.emod_nonneg _ (by decide)) (Int.emod_lt_of_pos _ (by decide))
        have ly : Ln y := by
          simp only [List.mem_cons, List.not_mem_nil, or_false] at hy
          rcases hy with rfl | rfl | rfl | rfl <;> exact ln_small (by decide +kernel)
        refine ⟨rfl, _, rfl, _, rfl, _, _, rfl, rfl, cd, _, rfl, _, rfl, _, _, rfl, rfl, cd, _, _, rfl, rfl, p0, _, _, rfl, rfl, .inl ⟨by omega, by omega⟩, _, _, rfl, rfl, _, _, rfl, rfl, p0, s1, _, _, _, rfl, rfl, SqL.of (hs _ _ upd_same), hat, ?_⟩
        refine ⟨_, hd, lt_line (by rw [List.length_map]; omega), Same.mut hs hD, rows ++ [y], ?_, by rw [List.length_append, hl]; rfl, fun z hz => ?_⟩
        · rw [upd_same, List.map_append]; rfl
        · rcases List.mem_append.mp hz with q | q
          · exact hc z q
          · rw [List.mem_singleton.mp q]; exact ly
      · rintro H1 ⟨hs, rows, hd, hl, hc⟩
        refine ⟨D, _, rfl, .inl ⟨SqL.of hd, fun q hq => ?_⟩⟩
        refine ⟨by show 2 ≤ sizeLine; decide, fun a ha => ?_⟩
        have q2 := Same.new (o := .tup (rows.map V.str)) (Same.trans q1 hs) hq
        exact k a rows _ (Same.new q2 ha) ⟨q, upd_same, same_new ha _ _ upd_same⟩ hc (by omega)
    · refine iten (ne_i c) ?_
      refine ⟨_, rfl, by show 0 ≤ sizeLine; decide, fun e0 he0 => ?_⟩
      have q0 := same_new (o := .lst []) he0
      refine ⟨.list (lss.map leafD), .list [], .lst (SqL.of (q0 _ _ h1)) (dp_leaves (lf.mono (tups_of q0))), .lst (SqL.of upd_same) .nil, shaped_leaves fun ls hls => (lok ls hls).1, by decide +kernel, _, rfl, ?_⟩
      rw [eqv_nil]
      by_cases c2 : lss = []
      · refine itep (by rw [c2]; rfl) ?_
        obtain ⟨Hc, eHc⟩ : ∃ Hc, Hc = upd H e0 (.lst []) := ⟨_, rfl⟩
        rw [← eHc] at q0 ⊢
        refine ⟨by show 4 ≤ sizeLine; decide, fun s1 hs1 => ?_⟩
        have q1 := Same.new (o := .lst [V.str "a", V.str "b", V.str "", V.str "cd"]) q0 hs1
        refine ⟨_, rfl, _, _, rfl, rfl, cd, _, _, rfl, rfl, p0, _, rfl, by omega, by omega, fun D hD => lc_it walk_range (fun j H' => Same (upd Hc s1 (.lst [V.str "a", V.str "b", V.str "", V.str "cd"])) H' ∧ ∃ rows : List Str, H' D = some (.lst (rows.map V.str)) ∧ rows.length = j ∧ ∀ z ∈ rows, Ln z) ⟨same_new hD, [], upd_same, rfl, fun _ h => (nomatch h)⟩ (fun _ _ _ _ => trivial) ?_ ?_⟩
        · rintro j x H1 H2 hj ⟨hs, rows, hd, hl, hc⟩ ⟨rfl, hx⟩
          subst hx
          obtain ⟨y, hy, hat⟩ := pickS (ys := ["a", "b", "", "cd"]) (i := (i / 4 + (0 + ((j : Nat) : Int)) * (i / 28 % 4)) % 4) (Int.emod_nonneg _ (by decide)) (Int.emod_lt_of_pos _ (by decide))
          have ly : Ln y := by
            simp only [List.mem_cons, List.not_mem_nil, or_false] at hy
            rcases hy with rfl | rfl | rfl | rfl <;> exact ln_small (by decide +kernel)
          refine ⟨rfl, _, rfl, _, rfl, _, _, rfl, rfl, cd, _, rfl, _, rfl, _, _, rfl, rfl, cd, _, _, rfl, rfl, p0, _, _, rfl, rfl, .inl ⟨by omega, by omega⟩, _, _, rfl, rfl, _, _, rfl, rfl, p0, s1, _, _, _, rfl, rfl, SqL.of (hs _ _ upd_same), hat, ?_⟩
          refine ⟨_, hd, lt_line (by rw [List.length_map]; omega), Same.mut hs hD, rows ++ [y], ?_, by rw [List.length_append, hl]; rfl, fun z hz => ?_⟩
          · rw [upd_same, List.map_append]; rfl
          · rcases List.mem_append.mp hz with q | q
            · exact hc z q
            · rw [List.mem_singleton.mp q]; exact ly
        · rintro H1 ⟨hs, rows, hd, hl, hc⟩
          refine ⟨D, _, rfl, .inl ⟨SqL.of hd, fun q hq => ?_⟩⟩
          refine ⟨by show 2 ≤ sizeLine; decide, fun a ha => ?_⟩
          have q2 := Same.new (o := .tup (rows.map V.str)) (Same.trans q1 hs) hq
          exact k a rows _ (Same.new q2 ha) ⟨q, upd_same, same_new ha _ _ upd_same⟩ hc (by omega)
      · refine iten (by simpa using c2) ?_
        have lpos : 0 < lss.length := List.length_pos_iff.mpr c2
        have h1' := q0 _ _ h1
        obtain ⟨v, hv, hat⟩ := pick (xs := as.map V.ref) (i := i / 4 % (((as.map V.ref).length : Nat) : Int)) (Int.emod_nonneg _ (by rw [List.length_map]; omega)) (Int.emod_lt_of_pos _ (by rw [List.length_map]; omega))
        obtain ⟨a, ha, rfl⟩ := List.mem_map.mp hv
        obtain ⟨n, hn⟩ := List.mem_iff_getElem?.mp ha
        obtain ⟨ls, hls, q, t1, t2⟩ := paired_ix (LfAt.mono (tups_of q0) lf) hn
        obtain ⟨l1, l2⟩ := lok ls (List.mem_of_getElem? hls)
        refine ⟨_, rfl, _, rfl, _, _, rfl, rfl, cd, _, rfl, _, _, rfl, .inl ⟨_, SqL.of h1', rfl⟩, _, _, rfl, rfl, p0 (by rw [List.length_map]; omega), lv, _, _, _, rfl, rfl, SqL.of h1', hat, a, _, _, _, rfl, rfl, SqT.of t1, rfl, _, rfl, _, _, rfl, rfl, cd, q, _, ls, rfl, t2, l1, by omega, fun q' ls' H' s lq lnq lenq => ?_⟩
        refine ⟨by show 2 ≤ sizeLine; decide, fun u hu => ?_⟩
        exact k u ls' _ (Same.new (Same.trans q0 s) hu) ⟨q', upd_same, lsm (same_new hu) lq⟩ lnq (by omega)
end
end An

namespace An
open PySem PySem.Spec L2
theorem ix_some {n : Nat} {i : Int} (h0 : 0 ≤ i) (h1 : i < ((n : Nat) : Int)) : ∃ j, ixN n i = some j ∧ j < n := by
  obtain ⟨k, rfl⟩ := Int.eq_ofNat_of_zero_le h0
  exact ⟨k, ixN_nat (by omega), by omega⟩
section
variable {P : Program} {w : World} {K : PySem.W.Frag} {mg : Str → Option Value} {base : Heap}
/-- where a shelf's things stand while it grows -/
theorem sh_ins {P : Program} {w : World} {CP CS : Addr} {n : Nat} {h : Hp} {p o t g : Addr} {L : Cont} (k : ShAt P w CP CS n h p o t g L) : ∃ dx vb, h p = some (.ins CS dx (shF vb o t g)) := by
  obtain ⟨vb, Lb, Lo, _, c, _⟩ := k
  obtain ⟨dx, i⟩ := c.ins
  exact ⟨dx, vb, i⟩
/-! ### chain -/
def spChain (P : Program) (w : World) (K : PySem.W.Frag) : Sp := fun vs H Q _ => ∃ (p o t g : Addr) (i : Int) (L : Cont) (hs : Hp), vs = [.ref p, .int i] ∧ Same hs H ∧ Tups H hs ∧ ShAt P w (He.ga K "Pack") (He.ga K "Shelf") 1 hs p o t g L ∧ L.length + 18 ≤ 900 ∧
  ∀ hs' H' L', Grew Lf5 P w (He.ga K "Pack") (He.ga K "Shelf") p o t g hs H L hs' H' L' 18 → Q .non H'
theorem sc_chain : FnScope ["_law_shelf", "_law_cell", "_law_row", "_law_many", "_law_k"] ["_law_shelf", "_law_cell"] (defScope s_chain) := ⟨rfl, rfl, rfl, by decide +kernel, rfl, by decide +kernel, by decide +kernel⟩
theorem ok_chain (T : Tx K mg) : Gf P w K mg base CX0 17 (He.ga K "_law_chain") ["_law_shelf", "_law_cell"] (spChain P w K) := by
  have GS_put : Gf P w K mg base CX0 16 _ _ (spPut P w K) := ok_S_put T
  refine gf0_of T.d_chain sc_chain (fun _ _ _ _ _ _ us hl => match us, hl with | [_, _], _ => rfl) (fun vs H Q E h => ?_) (fun cdv A outer s H vs Q E hr h => ?_)
  · obtain ⟨p, o, t, g, i, L, hs, rfl, _⟩ := h; rfl
  · obtain ⟨p, o, t, g, i, L, hs, rfl, s0, tp, sh, lL, k⟩ := h
    refine ⟨_, pss_cons (ps_set (i := 2) sc_chain.nd rfl (Or.inl rfl) (pe_lst (pa_cons pe_str (pa_cons pe_str (pa_cons pe_str (pa_cons pe_str (pa_cons pe_str pa_nil)))))))
      (pss_cons (ps_set (i := 3) sc_chain.nd rfl (Or.inl rfl) (pe_ifExp (pt_cmpR op_eq (pe_op op_mod (pe_op op_fdiv (pv 1) pe_int) pe_int) pe_int (nomark _)) pe_int (pe_op op_mod (pv 1) pe_int)))
      (pss_one (ps_for PassesOwn.never rfl (pi_range1 rfl T.n_range (pa_cons (pv 3) pa_nil)) (pg_name (i := 4) sc_chain.nd rfl (Or.inl rfl))
        (pss_cons (ps_asg (pe_callTy call_str_int rfl T.n_str (by decide +kernel) (pa_cons (pv 4) pa_nil)) (pg_sub (pv 2) (pe_op op_mod (pe_op op_add (pe_op op_fdiv (pv 1) pe_int) (pv 4)) pe_int) set_list))
        (pss_one (ps_expr (pe_mt T.clS T.mS_put GS_put (hr.mono (by decide)) pass0 (pv 0) (pa_cons (pe_tup (pa_cons pe_str (pa_cons (pe_callTy (r := rTupK K) call_tuple_of rfl T.n_tuple (by decide +kernel) (pa_cons (pv 2) pa_nil)) pa_nil))) pa_nil)))))))), ?_⟩
    refine ⟨by show 5 ≤ sizeLine; decide, fun l hl0 => ?_⟩
    have hsl : hs l = none := L2.Same.free s0 hl0
    have G0 : Grew Lf5 P w (He.ga K "Pack") (He.ga K "Shelf") p o t g hs H L hs (upd H l (.lst ([("a" : Str), "b", "c", "d", "e"].map V.str))) L 0 := (Grew.refl s0 tp).mut hl0 hsl (fun _ z => nomatch z)
    have base5 : ∀ z ∈ ([("a" : Str), "b", "c", "d", "e"] : List Str), Ln z := by
      intro z hz
      simp only [List.mem_cons, List.not_mem_nil, or_false] at hz
      rcases hz with rfl | rfl | rfl | rfl | rfl <;> exact ln_small (by decide +kernel)
    refine ⟨_, rfl, _, _, rfl, rfl, cd, _, _, rfl, rfl, p0, rfl, _, rfl, ?_⟩
    by_cases c : i / 8 % 8 = 1
    · refine itep (decide_eq_true (show V.int (i / 8 % 8) = V.int 1 by rw [c])) ?_
      obtain ⟨M, eM⟩ : ∃ M : Int, M = 18 := ⟨_, rfl⟩
      change Ends.nx _ [some (.ref p), some (.int i), some (.ref l), some (.int 18), none] _
      rw [← eM]
      refine ⟨_, rfl, M, rfl, by omega, by omega, for_it walk_range (fun j σ H' => ∃ (v4 : Option V) (rows : List Str) (hs' : Hp) (L' : Cont), σ = [some (.ref p), some (.int i), some (.ref l), some (.int M), v4] ∧ Grew Lf5 P w (He.ga K "Pack") (He.ga K "Shelf") p o t g hs H L hs' H' L' j ∧ H' l = some (.lst (rows.map V.str)) ∧ hs' l = none ∧ rows.length = 5 ∧ ∀ z ∈ rows, Ln z)
        ⟨none, ["a", "b", "c", "d", "e"], hs, L, rfl, G0, upd_same, hsl, rfl, base5⟩ (fun _ _ _ _ _ => trivial) ?_ ?_⟩
      · rintro j x σ H1 H2 hj ⟨v4, rows, hs', L', rfl, G1, hl1, hsl1, rl, rln⟩ ⟨rfl, hx⟩
        have hx' : x = V.int (0 + ((j : Nat) : Int)) := hx
        subst hx'
        have jb : j < 18 := by omega
        have ej : (0 : Int) + ((j : Nat) : Int) = ((j : Nat) : Int) := by omega
        rw [ej]
        obtain ⟨n, hn, hnl⟩ := ix_some (n := (rows.map V.str).length) (i := (i / 8 + ((j : Nat) : Int)) % 5) (Int.emod_nonneg _ (by decide)) (by rw [List.length_map, rl]; exact Int.emod_lt_of_pos _ (by decide))
        refine ⟨_, rfl, _, rfl, log_nat (by omega), _, rfl, _, rfl, _, _, rfl, rfl, cd, _, rfl, _, _, rfl, rfl, _, _, rfl, rfl, p0, l, _, _, n, rfl, rfl, hl1, hn, ?_⟩
        have eset : (rows.map V.str).set n (V.str (num j)) = (rows.set n (num j)).map V.str := by rw [List.map_set]
        change Ends.nx _ _ (upd H2 l (.lst ((rows.map V.str).set n (V.str (num j)))))
        rw [eset]
        have G2 := G1.mut (u := .lst ((rows.set n (num j)).map V.str)) hl0 hsl1 (fun _ z => nomatch z)
        have sh2 := (G2.sh 1 sh).mono G2.sub
        obtain ⟨dx, vb, hp⟩ := sh_ins sh2
        have rln2 : ∀ z ∈ rows.set n (num j), Ln z := fun z hz => (List.mem_or_eq_of_mem_set hz).elim (rln z) fun e => by rw [e]; exact num_ln (by omega)
        refine ⟨_, rfl, p, dx, _, rfl, hp, sh_no, _, rfl, l, _, rfl, .inl ⟨SqL.of upd_same, fun q hq => ⟨by show 2 ≤ sizeLine; decide, fun a ha => ?_⟩⟩⟩
        have s2 := Same.new (o := .tup [V.str "leaf", V.ref q]) (same_new (o := .tup ((rows.set n (num j)).map V.str)) hq) ha
        have G3 := G2.trans (Grew.same G2.sub G2.tup s2)
        have l3 := G3.len
        have k3 := (Grew.same (G := Lf5) (P := P) (w := w) (CP := He.ga K "Pack") (CS := He.ga K "Shelf") (p := p) (o := o) (t := t) (g := g) (L := L') G2.sub G2.tup s2).keep (G2.sh 1 sh) hsl1 upd_same
        refine ⟨p, a, o, t, g, L', .leaf (rows.set n (num j)), _, rfl, G3.sub, G3.tup, G3.sh 1 sh, ⟨q, upd_same, same_new ha _ _ upd_same⟩, ⟨fun z hz => (rln2 z hz).1, by rw [List.length_set]; omega⟩, trivial, by omega, fun nm hs4 H4 L4 G4 m4 => ?_⟩
        obtain ⟨k4, k5⟩ := G4.keep (G3.sh 1 sh) k3.2 k3.1
        exact ⟨_, _, hs4, L4, rfl, G3.trans (G4.imp fun t e => by rw [e]; exact fun z hz => (rln2 z hz).2), k4, k5, by rw [List.length_set]; exact rl, rln2⟩
      · rintro σ H1 ⟨v4, rows, hs', L', rfl, G1, _⟩
        exact k hs' H1 L' (G1.le (by omega))
    · refine iten (ne_i c) ?_
      refine ⟨_, rfl, _, _, rfl, rfl, p0, ?_⟩
      obtain ⟨M, eM⟩ : ∃ M : Int, M = i % 8 := ⟨_, rfl⟩
      change Ends.nx _ [some (.ref p), some (.int i), some (.ref l), some (.int (i % 8)), none] _
      rw [← eM]
      refine ⟨_, rfl, M, rfl, by omega, by omega, for_it walk_range (fun j σ H' => ∃ (v4 : Option V) (rows : List Str) (hs' : Hp) (L' : Cont), σ = [some (.ref p), some (.int i), some (.ref l), some (.int M), v4] ∧ Grew Lf5 P w (He.ga K "Pack") (He.ga K "Shelf") p o t g hs H L hs' H' L' j ∧ H' l = some (.lst (rows.map V.str)) ∧ hs' l = none ∧ rows.length = 5 ∧ ∀ z ∈ rows, Ln z)
        ⟨none, ["a", "b", "c", "d", "e"], hs, L, rfl, G0, upd_same, hsl, rfl, base5⟩ (fun _ _ _ _ _ => trivial) ?_ ?_⟩
      · rintro j x σ H1 H2 hj ⟨v4, rows, hs', L', rfl, G1, hl1, hsl1, rl, rln⟩ ⟨rfl, hx⟩
        have hx' : x = V.int (0 + ((j : Nat) : Int)) := hx
        subst hx'
        have jb : j < 18 := by omega
        have ej : (0 : Int) + ((j : Nat) : Int) = ((j : Nat) : Int) := by omega
        rw [ej]
        obtain ⟨n, hn, hnl⟩ := ix_some (n := (rows.map V.str).length) (i := (i / 8 + ((j : Nat) : Int)) % 5) (Int.emod_nonneg _ (by decide)) (by rw [List.length_map, rl]; exact Int.emod_lt_of_pos _ (by decide))
        refine ⟨_, rfl, _, rfl, log_nat (by omega), _, rfl, _, rfl, _, _, rfl, rfl, cd, _, rfl, _, _, rfl, rfl, _, _, rfl, rfl, p0, l, _, _, n, rfl, rfl, hl1, hn, ?_⟩
        have eset : (rows.map V.str).set n (V.str (num j)) = (rows.set n (num j)).map V.str := by rw [List.map_set]
        change Ends.nx _ _ (upd H2 l (.lst ((rows.map V.str).set n (V.str (num j)))))
        rw [eset]
        have G2 := G1.mut (u := .lst ((rows.set n (num j)).map V.str)) hl0 hsl1 (fun _ z => nomatch z)
        have sh2 := (G2.sh 1 sh).mono G2.sub
        obtain ⟨dx, vb, hp⟩ := sh_ins sh2
        have rln2 : ∀ z ∈ rows.set n (num j), Ln z := fun z hz => (List.mem_or_eq_of_mem_set hz).elim (rln z) fun e => by rw [e]; exact num_ln (by omega)
        refine ⟨_, rfl, p, dx, _, rfl, hp, sh_no, _, rfl, l, _, rfl, .inl ⟨SqL.of upd_same, fun q hq => ⟨by show 2 ≤ sizeLine; decide, fun a ha => ?_⟩⟩⟩
        have s2 := Same.new (o := .tup [V.str "leaf", V.ref q]) (same_new (o := .tup ((rows.set n (num j)).map V.str)) hq) ha
        have G3 := G2.trans (Grew.same G2.sub G2.tup s2)
        have l3 := G3.len
        have k3 := (Grew.same (G := Lf5) (P := P) (w := w) (CP := He.ga K "Pack") (CS := He.ga K "Shelf") (p := p) (o := o) (t := t) (g := g) (L := L') G2.sub G2.tup s2).keep (G2.sh 1 sh) hsl1 upd_same
        refine ⟨p, a, o, t, g, L', .leaf (rows.set n (num j)), _, rfl, G3.sub, G3.tup, G3.sh 1 sh, ⟨q, upd_same, same_new ha _ _ upd_same⟩, ⟨fun z hz => (rln2 z hz).1, by rw [List.length_set]; omega⟩, trivial, by omega, fun nm hs4 H4 L4 G4 m4 => ?_⟩
        obtain ⟨k4, k5⟩ := G4.keep (G3.sh 1 sh) k3.2 k3.1
        exact ⟨_, _, hs4, L4, rfl, G3.trans (G4.imp fun t e => by rw [e]; exact fun z hz => (rln2 z hz).2), k4, k5, by rw [List.length_set]; exact rl, rln2⟩
      · rintro σ H1 ⟨v4, rows, hs', L', rfl, G1, _⟩
        exact k hs' H1 L' (G1.le (by omega))
end
end An

namespace An
open PySem PySem.Spec L2
/-! ### the four paths -/
def P4 : List Str := ["a", "b/c", "b/d", "ab/a/a"]
theorem lab_small {z : Str} (h : (decide (1 ≤ z.length) && decide (z.length ≤ 8) && z.cps.all fun c => decide (97 ≤ c ∧ c ≤ 122)) = true) : LabelOk z := by
  have h1 := (Bool.and_eq_true_iff.mp h).1
  have h2 := (Bool.and_eq_true_iff.mp h).2
  refine ⟨of_decide_eq_true (Bool.and_eq_true_iff.mp h1).1, of_decide_eq_true (Bool.and_eq_true_iff.mp h1).2, fun c hc => ?_⟩
  exact of_decide_eq_true ((Array.all_eq_true_iff_forall_mem.mp h2) c (Array.mem_toList_iff.mp hc))
theorem p4_path : ∀ z ∈ P4, PathOk 3 z := by
  have e1 : parts ("a" : Str) = (("a" : Str), (("" : Str), ("" : Str))) := by decide +kernel
  have e2 : parts ("b/c" : Str) = (("b" : Str), (("/" : Str), ("c" : Str))) := by decide +kernel
  have e3 : parts ("b/d" : Str) = (("b" : Str), (("/" : Str), ("d" : Str))) := by decide +kernel
  have e4 : parts ("ab/a/a" : Str) = (("ab" : Str), (("/" : Str), ("a/a" : Str))) := by decide +kernel
  have e5 : parts ("a/a" : Str) = (("a" : Str), (("/" : Str), ("a" : Str))) := by decide +kernel
  have e6 : parts ("c" : Str) = (("c" : Str), (("" : Str), ("" : Str))) := by decide +kernel
  have e7 : parts ("d" : Str) = (("d" : Str), (("" : Str), ("" : Str))) := by decide +kernel
  have ns : ("/" : Str) ≠ "" := by decide +kernel
  have one : ∀ {d : Nat} {z : Str}, parts z = (z, (("" : Str), ("" : Str))) → LabelOk z → PathOk (d + 1) z := fun e h => ⟨by rw [e]; exact h, by have := h.2.1; omega, .inl (by rw [e])⟩
  have two : ∀ {d : Nat} {z l r : Str}, parts z = (l, (("/" : Str), r)) → LabelOk l → z.length ≤ 40 → PathOk d r → PathOk (d + 1) z := fun e h l k => ⟨by rw [e]; exact h, l, .inr ⟨by rw [e]; exact ns, by rw [e]; exact k⟩⟩
  intro z hz
  unfold P4 at hz
  simp only [List.mem_cons, List.not_mem_nil, or_false] at hz
  rcases hz with rfl | rfl | rfl | rfl
  · exact one e1 (lab_small (by decide +kernel))
  · exact two e2 (lab_small (by decide +kernel)) (by decide +kernel) (one e6 (lab_small (by decide +kernel)))
  · exact two e3 (lab_small (by decide +kernel)) (by decide +kernel) (one e7 (lab_small (by decide +kernel)))
  · exact two e4 (lab_small (by decide +kernel)) (by decide +kernel) (two e5 (lab_small (by decide +kernel)) (by decide +kernel) (one e1 (lab_small (by decide +kernel))))
theorem p4_split : ∀ z ∈ P4, PathS z ∧ FreeS P4 z := by
  have l1 : LabelOk "a" := lab_small (by decide +kernel)
  have l2 : LabelOk "b" := lab_small (by decide +kernel)
  have l3 : LabelOk "c" := lab_small (by decide +kernel)
  have l4 : LabelOk "d" := lab_small (by decide +kernel)
  have l5 : LabelOk "ab" := lab_small (by decide +kernel)
  intro z hz
  have hz' := hz
  unfold P4 at hz'
  simp only [List.mem_cons, List.not_mem_nil, or_false] at hz'
  have fr : ∀ z : Str, (List.range (Txt.split z "/").length).all (fun m => decide (m = 0) || !decide (Txt.join "/" ((Txt.split z "/").take m) ∈ P4)) = true → FreeS P4 z := by
    intro z h m h1 h2 h3
    have := List.all_eq_true.mp h m (List.mem_range.mpr h2)
    rw [decide_eq_true h3, decide_eq_false (by omega : ¬ m = 0)] at this
    cases this
  rcases hz' with rfl | rfl | rfl | rfl
  · have e : Txt.split ("a" : Str) "/" = [("a" : Str)] := by decide +kernel
    refine ⟨⟨by decide +kernel, by rw [e]; decide, fun l hl => ?_⟩, fr _ (by decide +kernel)⟩
    rw [e] at hl; rw [List.mem_singleton.mp hl]; exact l1
  · have e : Txt.split ("b/c" : Str) "/" = [("b" : Str), ("c" : Str)] := by decide +kernel
    refine ⟨⟨by decide +kernel, by rw [e]; decide, fun l hl => ?_⟩, fr _ (by decide +kernel)⟩
    rw [e] at hl
    simp only [List.mem_cons, List.not_mem_nil, or_false] at hl
    rcases hl with rfl | rfl <;> assumption
  · have e : Txt.split ("b/d" : Str) "/" = [("b" : Str), ("d" : Str)] := by decide +kernel
    refine ⟨⟨by decide +kernel, by rw [e]; decide, fun l hl => ?_⟩, fr _ (by decide +kernel)⟩
    rw [e] at hl
    simp only [List.mem_cons, List.not_mem_nil, or_false] at hl
    rcases hl with rfl | rfl <;> assumption
  · have e : Txt.split ("ab/a/a" : Str) "/" = [("ab" : Str), ("a" : Str), ("a" : Str)] := by decide +kernel
    refine ⟨⟨by decide +kernel, by rw [e]; decide, fun l hl => ?_⟩, fr _ (by decide +kernel)⟩
    rw [e] at hl
    simp only [List.mem_cons, List.not_mem_nil, or_false] at hl
    rcases hl with rfl | rfl | rfl <;> assumption
theorem free_sub {ks ks' : List Str} {z : Str} (h : FreeS ks' z) (s : ∀ k ∈ ks, k ∈ ks') : FreeS ks z := fun m h1 h2 h3 => h m h1 h2 (s _ h3)
/-! ### while a shelf is filled -/
section
variable {G : Thing → Prop} {P : Program} {w : World} {CP CS p o t g : Addr} {hs H hs' H' hs2 H2 : Hp} {L L' L2 : Cont} {c d n : Nat} {x : Addr} {u u' : HO}
/-- .. with one local thing more -/
theorem Grew.sameX (s : Same hs H) (tp : Tups H hs) (k : Same H H') (hx : H x = none) (nt : ∀ xs, H' x ≠ some (.tup xs)) : Grew G P w CP CS p o t g hs H L (del (fil hs H H') x) H' L 0 := by
  have G0 := Grew.same (G := G) (P := P) (w := w) (CP := CP) (CS := CS) (p := p) (o := o) (t := t) (g := g) (L := L) s tp k
  have hsx : hs x = none := L2.Same.free s hx
  refine ⟨Same.trans del_same G0.sub, fun b xs e => ?_, fun b h1 h2 => ?_, G0.dom, G0.but, fun n q => q.mono fun b v e => ?_, G0.ext⟩
  · rw [del_ne (fun z => nt xs (by rw [← z]; exact e))]; exact G0.tup _ _ e
  · unfold del
    split
    · rfl
    · exact G0.out b h1 h2
  · rw [del_ne (fun z => by rw [z, hsx] at e; cases e), fil_some e]; exact k _ _ (s _ _ e)
theorem Grew.lst (a : Grew G P w CP CS p o t g hs H L hs' H' L' c) (s : Same hs H) (k : ShAt P w CP CS n hs p o t g L) {xs : List V} (e : H x = some (.lst xs)) : H' x = some (.lst xs) := by
  refine a.but _ _ (fun z => ?_) e
  have k2 := k.mono s
  obtain ⟨vb, Lb, Lo, _, C, _⟩ := k2
  obtain ⟨ow, o1, _⟩ := C.own
  obtain ⟨kvs, t1, _⟩ := C.told
  obtain ⟨gks, g1, _⟩ := C.gr
  rcases z with rfl | rfl | rfl
  · rw [o1] at e; cases e
  · have := t1.1; rw [e] at this; cases this
  · rw [g1] at e; cases e
end
structure FS (P : Program) (w : World) (CP CS p o t g : Addr) (hs H : Hp) (L : Cont) (nl lv : Addr) (hs' H' : Hp) (L' : Cont) (c : Nat) (names : List Str) (as : List Addr) (lss : List (List Str)) (m : Nat) : Prop where
  gr : Grew Lf5 P w CP CS p o t g hs H L hs' H' L' c
  na : H' nl = some (.lst (names.map V.str))
  nh : hs' nl = none
  n0 : H nl = none
  la : H' lv = some (.lst (as.map V.ref))
  lh : hs' lv = none
  l0 : H lv = none
  ne : nl ≠ lv
  lf : LfAt H' as lss
  nm : ∀ z ∈ names, ∃ t, (z, t) ∈ L'
  lok : ∀ ls ∈ lss, (∀ l ∈ ls, Ln l) ∧ ls.length ≤ m
section
variable {P : Program} {w : World} {CP CS p o t g : Addr} {hs H hs' H' hs2 H2 : Hp} {L L' L2 : Cont} {c d e n m : Nat} {nl lv : Addr} {names : List Str} {as : List Addr} {lss : List (List Str)}
theorem FS.grew (k : FS P w CP CS p o t g hs H L nl lv hs' H' L' c names as lss m) (sh : ShAt P w CP CS n hs p o t g L) (a : Grew Lf5 P w CP CS p o t g hs' H' L' hs2 H2 L2 e) : FS P w CP CS p o t g hs H L nl lv hs2 H2 L2 (c + e) names as lss m := by
  have sh' := k.gr.sh n sh
  obtain ⟨q1, q2⟩ := a.keep sh' k.nh k.na
  obtain ⟨q3, q4⟩ := a.keep sh' k.lh k.la
  exact ⟨k.gr.trans a, q1, q2, k.n0, q3, q4, k.l0, k.ne, k.lf.mono (a.tups k.gr.sub sh'), fun z hz => let ⟨t, q⟩ := k.nm z hz; ⟨t, a.mem _ q⟩, k.lok⟩
theorem FS.same (k : FS P w CP CS p o t g hs H L nl lv hs' H' L' c names as lss m) (sh : ShAt P w CP CS n hs p o t g L) (s : Same H' H2) : FS P w CP CS p o t g hs H L nl lv (fil hs' H' H2) H2 L' c names as lss m := k.grew sh (Grew.same k.gr.sub k.gr.tup s)
theorem FS.napp (k : FS P w CP CS p o t g hs H L nl lv hs' H' L' c names as lss m) {z : Str} {th : Thing} (h : (z, th) ∈ L') : FS P w CP CS p o t g hs H L nl lv hs' (upd H' nl (.lst (names.map V.str ++ [V.str z]))) L' c (names ++ [z]) as lss m := by
  refine ⟨k.gr.mut k.n0 k.nh (fun _ z => nomatch z), by rw [upd_same, List.map_append]; rfl, k.nh, k.n0, by rw [upd_ne (Ne.symm k.ne)]; exact k.la, k.lh, k.l0, k.ne, k.lf.mono (tups_lst k.na), fun y hy => ?_, k.lok⟩
  rcases List.mem_append.mp hy with q | q
  · exact k.nm y q
  · rw [List.mem_singleton.mp q]; exact ⟨th, h⟩
theorem FS.lapp (k : FS P w CP CS p o t g hs H L nl lv hs' H' L' c names as lss m) {a : Addr} {ls : List Str} (ta : ThAt H' a (.leaf ls)) (h1 : ∀ l ∈ ls, Ln l) (h2 : ls.length ≤ m + 2) :
    FS P w CP CS p o t g hs H L nl lv hs' (upd H' lv (.lst (as.map V.ref ++ [V.ref a]))) L' c names (as ++ [a]) (lss ++ [ls]) (m + 2) := by
  have tp : Tups H' (upd H' lv (.lst (as.map V.ref ++ [V.ref a]))) := tups_lst k.la
  refine ⟨k.gr.mut k.l0 k.lh (fun _ z => nomatch z), by rw [upd_ne k.ne]; exact k.na, k.nh, k.n0, by rw [upd_same, List.map_append]; rfl, k.lh, k.l0, k.ne, paired_snoc (k.lf.mono tp) (ta.mono tp), k.nm, fun x hx => ?_⟩
  rcases List.mem_append.mp hx with q | q
  · exact ⟨(k.lok x q).1, by have := (k.lok x q).2; omega⟩
  · rw [List.mem_singleton.mp q]; exact ⟨h1, h2⟩
end
end An

namespace An
open PySem PySem.Spec L2
theorem FS.up {P : Program} {w : World} {CP CS p o t g : Addr} {hs H hs' H' : Hp} {L L' : Cont} {c m m' : Nat} {nl lv : Addr} {names : List Str} {as : List Addr} {lss : List (List Str)} (k : FS P w CP CS p o t g hs H L nl lv hs' H' L' c names as lss m) (h : m ≤ m') : FS P w CP CS p o t g hs H L nl lv hs' H' L' c names as lss m' :=
  ⟨k.gr, k.na, k.nh, k.n0, k.la, k.lh, k.l0, k.ne, k.lf, k.nm, fun ls hls => ⟨(k.lok ls hls).1, Nat.le_trans (k.lok ls hls).2 h⟩⟩
section
variable {P : Program} {w : World} {K : PySem.W.Frag} {mg : Str → Option Value} {base : Heap}
/-! ### filled -/
def spFilled (P : Program) (w : World) (K : PySem.W.Frag) : Sp := fun vs H Q _ => ∃ (p c o t g : Addr) (L : Cont) (ns : List Int) (hs : Hp), vs = [.ref p, .ref c] ∧ Same hs H ∧ Tups H hs ∧ ShAt P w (He.ga K "Pack") (He.ga K "Shelf") 1 hs p o t g L ∧
  H c = some (.lst (ns.map V.int)) ∧ ns.length ≤ 4 ∧ L.length + 10 * ns.length ≤ 900 ∧ ∀ v hs' H' L', Grew Lf5 P w (He.ga K "Pack") (He.ga K "Shelf") p o t g hs H L hs' H' L' (10 * ns.length) → Q v H'
theorem sc_filled : FnScope ["_law_shelf", "_law_cells", "_law_names", "_law_leaves", "_law_cell", "_law_form", "_law_trees", "_law_notes", "_law_files", "_law_k", "_law_path", "_law_parents", "_law_thing", "_law_name"] ["_law_shelf", "_law_cells"] (defScope s_filled) := ⟨rfl, rfl, rfl, by decide +kernel, rfl, by decide +kernel, by decide +kernel⟩
theorem ok_filled (T : Tx K mg) : Gf P w K mg base CX0 24 (He.ga K "_law_filled") ["_law_shelf", "_law_cells"] (spFilled P w K) := by
  have GS_put : Gf P w K mg base CX0 16 _ _ (spPut P w K) := ok_S_put T
  have G_keep_files : Gf P w K mg base CX0 23 _ _ (spKeepFiles P w K) := ok_keep_files T
  have G_leaf_by : Gf P w K mg base CX0 3 _ _ spLeafBy := ok_leaf_by T
  refine gf0_of T.d_filled sc_filled (fun _ _ _ _ _ _ us hl => match us, hl with | [_, _], _ => rfl) (fun vs H Q E h => ?_) (fun cdv A outer s H vs Q E hr h => ?_)
  · obtain ⟨p, c, o, t, g, L, ns, hs, rfl, _⟩ := h; rfl
  · obtain ⟨p, c, o, t, g, L, ns, hs, rfl, s0, tp, sh, hc, lns, lL, k⟩ := h
    refine ⟨_, pss_cons (ps_set (i := 2) sc_filled.nd rfl (Or.inl rfl) (pe_lst pa_nil))
      (pss_cons (ps_set (i := 3) sc_filled.nd rfl (Or.inl rfl) (pe_lst pa_nil))
      (pss_cons (ps_for PassesOwn.never rfl (pi_list (pv 1)) (pg_name (i := 4) sc_filled.nd rfl (Or.inl rfl))
        (pss_cons (ps_set (i := 5) sc_filled.nd rfl (Or.inl rfl) (pe_op op_mod (pv 4) pe_int))
        (pss_cons (ps_setLc (i := 6) (y := "_law_trees") (own := [("_law_name", 13)]) (g := gName 13) rfl sc_filled.nd rfl rfl (sw_true rfl rfl rfl (by decide +kernel)) (pi_list (pv 2)) (blkOk_by (own := [("_law_name", 13)]) (N := ["_law_shelf", "_law_cells", "_law_names", "_law_leaves", "_law_cell", "_law_form", "_law_trees", "_law_notes", "_law_files", "_law_k", "_law_path", "_law_parents", "_law_thing", "_law_name"]) (sc := defScope s_filled) (by decide +kernel)) (fun _ _ _ _ _ => pg_name (i := 13) sc_filled.nd rfl (Or.inl rfl)) (fun _ _ _ _ _ => pts_one (pt_cmpR op_eq (pe_ix ix_str (pv 13) pe_int (fun _ _ => rfl)) pe_str (nomark _))) (fun _ _ _ _ _ => (pv 13)))
        (pss_cons (ps_setLc (i := 7) (y := "_law_notes") (own := [("_law_name", 13)]) (g := gName 13) rfl sc_filled.nd rfl rfl (sw_true rfl rfl rfl (by decide +kernel)) (pi_list (pv 2)) (blkOk_by (own := [("_law_name", 13)]) (N := ["_law_shelf", "_law_cells", "_law_names", "_law_leaves", "_law_cell", "_law_form", "_law_trees", "_law_notes", "_law_files", "_law_k", "_law_path", "_law_parents", "_law_thing", "_law_name"]) (sc := defScope s_filled) (by decide +kernel)) (fun _ _ _ _ _ => pg_name (i := 13) sc_filled.nd rfl (Or.inl rfl)) (fun _ _ _ _ _ => pts_one (pt_cmpR op_eq (pe_ix ix_str (pv 13) pe_int (fun _ _ => rfl)) pe_str (nomark _))) (fun _ _ _ _ _ => (pv 13)))
        (pss_one (ps_if (PW.pt (pw_and (pt_cmpR op_gt (pv 5) pe_int (nomark _)) (pw_and1 (pt_cmpR (r := rNeD K) (op_neD hr.units) (pv 3) (pe_lst pa_nil) (nomark _)))))
          (pss_cons (ps_set (i := 8) sc_filled.nd rfl (Or.inl rfl) pe_dnewK)
          (pss_cons (ps_for PassesOwn.never rfl (pi_range1 rfl T.n_range (pa_cons (pe_op op_mod (pe_op op_fdiv (pv 4) pe_int) pe_int) pa_nil)) (pg_name (i := 9) sc_filled.nd rfl (Or.inl rfl))
            (pss_cons (ps_set (i := 10) sc_filled.nd rfl (Or.inl rfl) (pe_ix (r := rIxL K) ix_list (pe_lst (pa_cons pe_str (pa_cons pe_str (pa_cons pe_str (pa_cons pe_str pa_nil))))) (pe_op op_mod (pe_op op_add (pe_op op_fdiv (pv 4) pe_int) (pv 9)) pe_int) (fun _ _ => rfl)))
            (pss_one (ps_dput (hu_of hr) (pv 8) (pv 10) (pe_ix (r := rIxT K) ix_tup (pe_ix (r := rIxL K) ix_list (pv 3) (pe_op op_mod (pe_op op_add (pe_op op_fdiv (pv 4) pe_int) (pv 9)) (pe_callB (r := rLen K) call_len rfl T.n_len (by decide +kernel) (pa_cons (pv 3) pa_nil))) (fun _ _ => rfl)) pe_int (fun _ _ => rfl)) rfl))))
          (pss_one (ps_expr (pe_bm PySem.F.plainAttrs_list PySem.F.slot_list_append PySem.F.type_list_append mt_append (pv 2) (pa_cons (pe_fn G_keep_files (hr.mono (by decide)) T.g_keep_files pass0 (pa_cons (pv 0) (pa_cons (pv 8) pa_nil))) pa_nil))))))
          (pss_one (ps_if (PW.pt (pw_and (pt_cmpR op_eq (pv 5) pe_int (nomark _)) (pw_and1 (pt_cmpR (r := rNeD K) (op_neD hr.units) (pv 6) (pe_lst pa_nil) (nomark _)))))
            (pss_cons (ps_set (i := 11) sc_filled.nd rfl (Or.inl rfl) (pe_ifExp (PW.pt (pw_and (pt_cmpR (r := rNeD K) (op_neD hr.units) (pv 7) (pe_lst pa_nil) (nomark _)) (pw_and1 (pt_cmpR op_gt (pe_op op_mod (pe_op op_fdiv (pv 4) pe_int) pe_int) pe_int (nomark _))))) (pe_lst (pa_cons (pe_ix (r := rIxL K) ix_list (pv 7) (pe_op op_mod (pe_op op_fdiv (pv 4) pe_int) (pe_callB (r := rLen K) call_len rfl T.n_len (by decide +kernel) (pa_cons (pv 7) pa_nil))) (fun _ _ => rfl)) pa_nil)) (pe_lst pa_nil)))
            (pss_cons (ps_set (i := 12) sc_filled.nd rfl (Or.inl rfl) (pe_tup (pa_cons pe_str (pa_cons (pe_ix (r := rIxL K) ix_list (pv 6) (pe_op op_mod (pe_op op_fdiv (pv 4) pe_int) (pe_callB (r := rLen K) call_len rfl T.n_len (by decide +kernel) (pa_cons (pv 6) pa_nil))) (fun _ _ => rfl)) (pa_cons (pe_callTy (r := rTupK K) call_tuple_of rfl T.n_tuple (by decide +kernel) (pa_cons (pv 11) pa_nil)) (pa_cons pe_str pa_nil))))))
            (pss_one (ps_expr (pe_bm PySem.F.plainAttrs_list PySem.F.slot_list_append PySem.F.type_list_append mt_append (pv 2) (pa_cons (pe_mt T.clS T.mS_put GS_put (hr.mono (by decide)) pass0 (pv 0) (pa_cons (pv 12) pa_nil)) pa_nil))))))
            (pss_cons (ps_expr (pe_bm PySem.F.plainAttrs_list PySem.F.slot_list_append PySem.F.type_list_append mt_append (pv 3) (pa_cons (pe_fn G_leaf_by (hr.mono (by decide)) T.g_leaf_by pass0 (pa_cons (pv 3) (pa_cons (pe_op op_fdiv (pv 4) pe_int) pa_nil))) pa_nil)))
            (pss_one (ps_expr (pe_bm PySem.F.plainAttrs_list PySem.F.slot_list_append PySem.F.type_list_append mt_append (pv 2) (pa_cons (pe_mt T.clS T.mS_put GS_put (hr.mono (by decide)) pass0 (pv 0) (pa_cons (pe_ix (r := rIxL K) ix_list (pv 3) (pe_un un_neg pe_int) (fun _ _ => rfl)) pa_nil)) pa_nil)))))))))))))
      (pss_one (ps_ret (pv 2))))), ?_⟩
    refine ⟨Nat.zero_le _, fun nl hnl => ?_⟩
    refine ⟨Nat.zero_le _, fun lv hlv => ?_⟩
    have nne : nl ≠ lv := ne_of_none upd_same hlv
    have hlv0 : H lv = none := L2.Same.free (same_new (o := .lst []) hnl) hlv
    have hsn : hs nl = none := L2.Same.free s0 hnl
    have hsl : hs lv = none := L2.Same.free s0 hlv0
    have F0 : FS P w (He.ga K "Pack") (He.ga K "Shelf") p o t g hs H L nl lv hs (upd (upd H nl (.lst [])) lv (.lst [])) L 0 [] [] [] 10 :=
      ⟨((Grew.refl s0 tp).mut (u := .lst []) hnl hsn (fun _ z => nomatch z)).mut (u := .lst []) hlv0 hsl (fun _ z => nomatch z), by rw [upd_ne nne]; exact upd_same, hsn, hnl, upd_same, hsl, hlv0, nne, .nil, fun _ h => (nomatch h), fun _ h => (nomatch h)⟩
    refine ⟨_, rfl, c, rfl, ⟨_, SqL.of (F0.gr.lst s0 sh hc)⟩, for_it walk_list (fun j σ H' => ∃ (v4 v5 v6 v7 v8 v9 v10 v11 v12 v13 : Option V) (hs' : Hp) (L' : Cont) (cc : Nat) (names : List Str) (as : List Addr) (lss : List (List Str)), σ = [some (.ref p), some (.ref c), some (.ref nl), some (.ref lv), v4, v5, v6, v7, v8, v9, v10, v11, v12, v13] ∧
        FS P w (He.ga K "Pack") (He.ga K "Shelf") p o t g hs H L nl lv hs' H' L' cc names as lss (10 + 2 * j) ∧ cc ≤ 10 * j ∧ names.length ≤ j ∧ lss.length ≤ j)
      ⟨none, none, none, none, none, none, none, none, none, none, hs, L, 0, [], [], [], rfl, F0, Nat.le_refl _, Nat.le_refl _, Nat.le_refl _⟩ (fun _ _ _ _ ⟨_, _, _, _, _, _, _, _, _, _, _, _, _, _, _, _, _, q, _⟩ => SqL.of (q.gr.lst s0 sh hc)) ?_ ?_⟩
    · rintro j xv σ H1 H2 hj ⟨v4, v5, v6, v7, v8, v9, v10, v11, v12, v13, hs', L', cc, names, as, lss, rfl, k1, ccj, nlj, llj⟩ ⟨rfl, hx⟩
      obtain ⟨x, _, rfl⟩ := map_get hx
      rw [List.length_map] at hj
      have lenL' := k1.gr.len
      have lenL : L'.length ≤ 100000 := by omega
      refine ⟨_, rfl, _, _, rfl, rfl, p0, ?_⟩
      obtain ⟨f, ef⟩ : ∃ f : Int, f = x % 7 := ⟨_, rfl⟩
      change Ends.nx _ [some (.ref p), some (.ref c), some (.ref nl), some (.ref lv), some (.int x), some (.int (x % 7)), v6, v7, v8, v9, v10, v11, v12, v13] _
      rw [← ef]
      refine ⟨_, rfl, nl, rfl, ⟨_, SqL.of k1.na⟩, fun D1 hD1 => lc_it walk_list (fun i H' => Same H2 H' ∧ ∃ ts : List Str, H' D1 = some (.lst (ts.map V.str)) ∧ ts.length ≤ i ∧ ∀ z ∈ ts, ∃ t, (z, t) ∈ L' ∧ lcode t = 84) ⟨same_new hD1, [], upd_same, Nat.le_refl _, fun _ h => (nomatch h)⟩ (fun _ _ _ q => SqL.of (q.1 _ _ k1.na)) ?_ ?_⟩
      · rintro i2 y H5 H6 hi2 ⟨hs5, ts, hd5, hl5, ht5⟩ ⟨rfl, hy⟩
        obtain ⟨z, hz, rfl⟩ := map_get hy
        obtain ⟨t2, m2⟩ := k1.nm z (List.mem_of_getElem? hz)
        refine ⟨rfl, _, rfl, _, _, _, rfl, rfl, le_line (by have := nm_len ((k1.gr.sh 1 sh).nm) lenL m2; omega), atI_nat (j := 0) (nm_first (k1.gr.sh 1 sh).nm m2), rfl, _, rfl, ?_⟩
        by_cases cz : lcode t2 = 84
        · refine itep (decide_eq_true (by show V.str ⟨#[lcode t2]⟩ = V.str "T"; rw [cz]; exact congrArg V.str (by decide +kernel))) ?_
          refine ⟨_, rfl, _, hd5, lt_line (by rw [List.length_map]; rw [List.length_map] at hi2; omega), Same.mut hs5 hD1, ts ++ [z], by rw [upd_same, List.map_append]; rfl, by rw [List.length_append]; exact Nat.succ_le_succ hl5, fun x hx => ?_⟩
          rcases List.mem_append.mp hx with q | q
          · exact ht5 x q
          · rw [List.mem_singleton.mp q]; exact ⟨t2, m2, cz⟩
        · refine iten (ne_s (fun q => cz ?_)) ?_
          · have e : ("T" : Str) = ⟨#[84]⟩ := by decide +kernel
            rw [e] at q
            have := congrArg (fun z : Str => z.cps.toList) q
            exact (List.cons.inj this).1
          · exact ⟨hs5, ts, hd5, Nat.le_succ_of_le hl5, ht5⟩
      rintro HD1 ⟨sD1, ts, hD1, _, tD1⟩
      have k2 := k1.same sh sD1
      refine ⟨_, rfl, nl, rfl, ⟨_, SqL.of k2.na⟩, fun D2 hD2 => lc_it walk_list (fun i H' => Same HD1 H' ∧ ∃ ts : List Str, H' D2 = some (.lst (ts.map V.str)) ∧ ts.length ≤ i ∧ ∀ z ∈ ts, ∃ t, (z, t) ∈ L' ∧ lcode t = 78) ⟨same_new hD2, [], upd_same, Nat.le_refl _, fun _ h => (nomatch h)⟩ (fun _ _ _ q => SqL.of (q.1 _ _ k2.na)) ?_ ?_⟩
      · rintro i2 y H5 H6 hi2 ⟨hs5, ts, hd5, hl5, ht5⟩ ⟨rfl, hy⟩
        obtain ⟨z, hz, rfl⟩ := map_get hy
        obtain ⟨t2, m2⟩ := k2.nm z (List.mem_of_getElem? hz)
        refine ⟨rfl, _, rfl, _, _, _, rfl, rfl, le_line (by have := nm_len ((k2.gr.sh 1 sh).nm) lenL m2; omega), atI_nat (j := 0) (nm_first (k2.gr.sh 1 sh).nm m2), rfl, _, rfl, ?_⟩
        by_cases cz : lcode t2 = 78
        · refine itep (decide_eq_true (by show V.str ⟨#[lcode t2]⟩ = V.str "N"; rw [cz]; exact congrArg V.str (by decide +kernel))) ?_
          refine ⟨_, rfl, _, hd5, lt_line (by rw [List.length_map]; rw [List.length_map] at hi2; omega), Same.mut hs5 hD2, ts ++ [z], by rw [upd_same, List.map_append]; rfl, by rw [List.length_append]; exact Nat.succ_le_succ hl5, fun x hx => ?_⟩
          rcases List.mem_append.mp hx with q | q
          · exact ht5 x q
          · rw [List.mem_singleton.mp q]; exact ⟨t2, m2, cz⟩
        · refine iten (ne_s (fun q => cz ?_)) ?_
          · have e : ("N" : Str) = ⟨#[78]⟩ := by decide +kernel
            rw [e] at q
            have := congrArg (fun z : Str => z.cps.toList) q
            exact (List.cons.inj this).1
          · exact ⟨hs5, ts, hd5, Nat.le_succ_of_le hl5, ht5⟩
      rintro Hc ⟨sD2, nts, hD2, _, tD2⟩
      have k3 := k2.same sh sD2
      have d1 := sD2 _ _ hD1
      have d2 := hD2
      have kc := k3
      refine ⟨_, rfl, _, _, rfl, rfl, _, rfl, ?_⟩
      by_cases f5 : f > 4
      · refine itep (decide_eq_true f5) ?_
        refine ⟨_, rfl, by show 0 ≤ sizeLine; decide, fun e0 he0 => ?_⟩
        have se := same_new (o := .lst []) he0
        obtain ⟨Hc, eHc⟩ : ∃ H9, H9 = upd Hc e0 (.lst []) := ⟨_, rfl⟩
        have ue : Hc e0 = some (.lst []) := by rw [eHc]; exact upd_same
        rw [← eHc] at se ⊢
        have kc := kc.same sh se
        have d1 := se _ _ d1
        have d2 := se _ _ d2
        refine ⟨.list (lss.map leafD), .list [], .lst (SqL.of kc.la) (dp_leaves kc.lf), .lst (SqL.of ue) .nil, shaped_leaves (fun ls hls => (kc.lok ls hls).1), by decide +kernel, _, rfl, ?_⟩
        rw [eqv_nil]
        by_cases ln0 : lss = []
        · refine iten (by rw [ln0]; decide) ?_
          have nmL := (kc.gr.sh 1 sh).nm
          have lowT : ∀ {z : Str} {t : Thing}, (z, t) ∈ L' → PyData.strOk z = true := fun h => nm_low nmL (nms_mem h)
          refine ⟨_, rfl, rfl, _, rfl, ?_⟩
          by_cases f4 : f = 4
          · refine itep (decide_eq_true (show V.int f = V.int 4 by rw [f4])) ?_
            refine ⟨_, rfl, by show 0 ≤ sizeLine; decide, fun e1 he1 => ?_⟩
            have se := same_new (o := .lst []) he1
            obtain ⟨Hc, eHc⟩ : ∃ H9, H9 = upd Hc e1 (.lst []) := ⟨_, rfl⟩
            have ue : Hc e1 = some (.lst []) := by rw [eHc]; exact upd_same
            rw [← eHc] at se ⊢
            have kc := kc.same sh se
            have d1 := se _ _ d1
            have d2 := se _ _ d2
            refine ⟨.list (ts.map .str), .list [], dp_strs d1, .lst (SqL.of ue) .nil, shaped_strs (fun z hz => let ⟨_, m, _⟩ := tD1 z hz; lowT m), by decide +kernel, _, rfl, ?_⟩
            rw [eqv_nil]
            by_cases tn : ts = []
            · refine iten (by rw [tn]; decide) ?_
              have alen := Paired.length kc.lf
              refine ⟨_, rfl, .inl ⟨rfl, _, SqL.of kc.la⟩, _, rfl, _, rfl, _, _, rfl, rfl, cd, lv, _, as, lss, 10 + 2 * j, rfl, kc.la, kc.lf, kc.lok, by omega, by omega, by omega, fun a ls H5 s5 ta5 ln5 len5 => ?_⟩
              have k5 := kc.same sh s5
              refine ⟨lv, _, _, rfl, rfl, k5.la, lt_line (by rw [List.length_map]; omega), ?_⟩
              have k6 := k5.lapp ta5 ln5 len5
              have sh6 := (k6.gr.sh 1 sh).mono k6.gr.sub
              obtain ⟨dx, vb, hp⟩ := sh_ins sh6
              have l6 := k6.gr.len
              refine ⟨_, rfl, .inl ⟨rfl, _, SqL.of k6.na⟩, _, rfl, p, dx, _, rfl, hp, sh_no, _, rfl, _, rfl, lv, _, _, _, rfl, rfl, SqL.of upd_same, atI_last _ _, ?_⟩
              refine ⟨p, a, o, t, g, L', .leaf ls, _, rfl, k6.gr.sub, k6.gr.tup, k6.gr.sh 1 sh, ta5.mono (tups_lst k5.la), ⟨fun z hz => (ln5 z hz).1, by omega⟩, trivial, by omega, fun nm hs7 H7 L7 G7 m7 => ?_⟩
              have k7 := k6.grew sh (G7.imp (F := Lf5) fun t e => by rw [e]; exact fun z hz => (ln5 z hz).2)
              refine ⟨nl, _, _, rfl, rfl, k7.na, lt_line (by rw [List.length_map]; omega), ?_⟩
              exact ⟨_, _, _, _, _, _, _, _, _, _, hs7, L7, _, _, _, _, rfl, (k7.napp m7).up (Nat.le_refl _), by omega, by rw [List.length_append]; show _ + 1 ≤ _; omega, by rw [List.length_append]; show _ + 1 ≤ _; omega⟩
            · have tpos : 0 < ts.length := List.length_pos_iff.mpr tn
              refine itep (by simpa using tn) ?_
              refine ⟨_, rfl, by show 0 ≤ sizeLine; decide, fun e2 he2 => ?_⟩
              have se := same_new (o := .lst []) he2
              obtain ⟨Hc, eHc⟩ : ∃ H9, H9 = upd Hc e2 (.lst []) := ⟨_, rfl⟩
              have ue : Hc e2 = some (.lst []) := by rw [eHc]; exact upd_same
              rw [← eHc] at se ⊢
              have kc := kc.same sh se
              have d1 := se _ _ d1
              have d2 := se _ _ d2
              refine ⟨.list (nts.map .str), .list [], dp_strs d2, .lst (SqL.of ue) .nil, shaped_strs (fun z hz => let ⟨_, m, _⟩ := tD2 z hz; lowT m), by decide +kernel, _, rfl, ?_⟩
              rw [eqv_nil]
              by_cases nn : nts = []
              · refine iten (by rw [nn]; decide) ?_
                refine ⟨by show 0 ≤ sizeLine; decide, fun pl hpl0 => ?_⟩
                have sp := same_new (o := .lst []) hpl0
                obtain ⟨pp, epp⟩ : ∃ pp : List Str, pp = [] := ⟨_, rfl⟩
                have hpl : upd Hc pl (.lst []) pl = some (.lst (pp.map V.str)) := by rw [epp]; exact upd_same
                have pok : ∀ q ∈ pp, ∃ t, (q, t) ∈ L' ∧ lcode t = 78 := fun q hq => by rw [epp] at hq; cases hq
                have plen : pp.length ≤ 1 := by rw [epp]; exact Nat.zero_le _
                obtain ⟨Hc, eHc⟩ : ∃ H9, H9 = upd Hc pl (.lst []) := ⟨_, rfl⟩
                rw [← eHc] at sp hpl
                change Ends.nx _ _ (upd _ pl (.lst []))
                rw [← eHc]
                have kc := kc.same sh sp
                have d1 := sp _ _ d1
                obtain ⟨tr, htr, hat⟩ := pickS (ys := ts) (i := x / 11 % (((ts.map V.str).length : Nat) : Int)) (Int.emod_nonneg _ (by rw [List.length_map]; omega)) (by rw [List.length_map]; exact Int.emod_lt_of_pos _ (by omega))
                obtain ⟨tt, tm, tc⟩ := tD1 tr htr
                refine ⟨_, rfl, _, rfl, _, _, rfl, rfl, cd, _, rfl, _, _, rfl, .inl ⟨_, SqL.of d1, rfl⟩, _, _, rfl, rfl, p0 (by rw [List.length_map]; omega), D1, _, _, _, rfl, rfl, SqL.of d1, hat, _, rfl, pl, _, rfl, .inl ⟨SqL.of hpl, fun q hq => ⟨by show 4 ≤ sizeLine; decide, fun a ha => ?_⟩⟩⟩
                have sa := Same.new (o := .tup [V.str "note", V.str tr, V.ref q, V.str "w"]) (same_new (o := .tup (pp.map V.str)) hq) ha
                have k5 := kc.same sh sa
                have sh5 := (k5.gr.sh 1 sh).mono k5.gr.sub
                obtain ⟨dx, vb, hp⟩ := sh_ins sh5
                refine ⟨_, rfl, .inl ⟨rfl, _, SqL.of k5.na⟩, _, rfl, p, dx, _, rfl, hp, sh_no, _, rfl, p, a, o, t, g, L', .note tr pp "w", _, rfl, k5.gr.sub, k5.gr.tup, k5.gr.sh 1 sh, ⟨q, upd_same, same_new ha _ _ upd_same⟩, ⟨nm_len nmL lenL tm, fun z hz => let ⟨_, m, _⟩ := pok z hz; nm_len nmL lenL m, plen, (ln_small (by decide +kernel)).1⟩, ⟨⟨tt, tm, tc⟩, pok⟩, by omega, fun nm hs7 H7 L7 G7 m7 => ?_⟩
                have k7 := k5.grew sh (G7.imp (F := Lf5) fun t e => by rw [e]; trivial)
                refine ⟨nl, _, _, rfl, rfl, k7.na, lt_line (by rw [List.length_map]; omega), ?_⟩
                exact ⟨_, _, _, _, _, _, _, _, _, _, hs7, L7, _, _, _, _, rfl, (k7.napp m7).up (by omega), by omega, by rw [List.length_append]; show _ + 1 ≤ _; omega, by omega⟩
              · have npos : 0 < nts.length := List.length_pos_iff.mpr nn
                refine itep (by simpa using nn) ?_
                refine ⟨_, rfl, _, _, rfl, rfl, cd, _, _, rfl, rfl, p0, _, _, rfl, rfl, _, rfl, ?_⟩
                by_cases c3 : x / 14 % 3 > 0
                · refine itep (decide_eq_true c3) ?_
                  obtain ⟨nz, hnz, hat2⟩ := pickS (ys := nts) (i := x / 7 % (((nts.map V.str).length : Nat) : Int)) (Int.emod_nonneg _ (by rw [List.length_map]; omega)) (by rw [List.length_map]; exact Int.emod_lt_of_pos _ (by omega))
                  refine ⟨_, rfl, _, rfl, _, _, rfl, rfl, cd, _, rfl, _, _, rfl, .inl ⟨_, SqL.of d2, rfl⟩, _, _, rfl, rfl, p0 (by rw [List.length_map]; omega), D2, _, _, _, rfl, rfl, SqL.of d2, hat2, by show 1 ≤ sizeLine; decide, fun pl hpl0 => ?_⟩
                  have sp := same_new (o := .lst [V.str nz]) hpl0
                  obtain ⟨pp, epp⟩ : ∃ pp : List Str, pp = [nz] := ⟨_, rfl⟩
                  have hpl : upd Hc pl (.lst [V.str nz]) pl = some (.lst (pp.map V.str)) := by rw [epp]; exact upd_same
                  have pok : ∀ q ∈ pp, ∃ t, (q, t) ∈ L' ∧ lcode t = 78 := fun q hq => by rw [epp] at hq; rw [List.mem_singleton.mp hq]; exact tD2 nz hnz
                  have plen : pp.length ≤ 1 := by rw [epp]; exact Nat.le_refl _
                  obtain ⟨Hc, eHc⟩ : ∃ H9, H9 = upd Hc pl (.lst [V.str nz]) := ⟨_, rfl⟩
                  rw [← eHc] at sp hpl
                  change Ends.nx _ _ (upd _ pl (.lst [V.str nz]))
                  rw [← eHc]
                  have kc := kc.same sh sp
                  have d1 := sp _ _ d1
                  obtain ⟨tr, htr, hat⟩ := pickS (ys := ts) (i := x / 11 % (((ts.map V.str).length : Nat) : Int)) (Int.emod_nonneg _ (by rw [List.length_map]; omega)) (by rw [List.length_map]; exact Int.emod_lt_of_pos _ (by omega))
                  obtain ⟨tt, tm, tc⟩ := tD1 tr htr
                  refine ⟨_, rfl, _, rfl, _, _, rfl, rfl, cd, _, rfl, _, _, rfl, .inl ⟨_, SqL.of d1, rfl⟩, _, _, rfl, rfl, p0 (by rw [List.length_map]; omega), D1, _, _, _, rfl, rfl, SqL.of d1, hat, _, rfl, pl, _, rfl, .inl ⟨SqL.of hpl, fun q hq => ⟨by show 4 ≤ sizeLine; decide, fun a ha => ?_⟩⟩⟩
                  have sa := Same.new (o := .tup [V.str "note", V.str tr, V.ref q, V.str "w"]) (same_new (o := .tup (pp.map V.str)) hq) ha
                  have k5 := kc.same sh sa
                  have sh5 := (k5.gr.sh 1 sh).mono k5.gr.sub
                  obtain ⟨dx, vb, hp⟩ := sh_ins sh5
                  refine ⟨_, rfl, .inl ⟨rfl, _, SqL.of k5.na⟩, _, rfl, p, dx, _, rfl, hp, sh_no, _, rfl, p, a, o, t, g, L', .note tr pp "w", _, rfl, k5.gr.sub, k5.gr.tup, k5.gr.sh 1 sh, ⟨q, upd_same, same_new ha _ _ upd_same⟩, ⟨nm_len nmL lenL tm, fun z hz => let ⟨_, m, _⟩ := pok z hz; nm_len nmL lenL m, plen, (ln_small (by decide +kernel)).1⟩, ⟨⟨tt, tm, tc⟩, pok⟩, by omega, fun nm hs7 H7 L7 G7 m7 => ?_⟩
                  have k7 := k5.grew sh (G7.imp (F := Lf5) fun t e => by rw [e]; trivial)
                  refine ⟨nl, _, _, rfl, rfl, k7.na, lt_line (by rw [List.length_map]; omega), ?_⟩
                  exact ⟨_, _, _, _, _, _, _, _, _, _, hs7, L7, _, _, _, _, rfl, (k7.napp m7).up (by omega), by omega, by rw [List.length_append]; show _ + 1 ≤ _; omega, by omega⟩
                · refine iten (by simpa using c3) ?_
                  refine ⟨by show 0 ≤ sizeLine; decide, fun pl hpl0 => ?_⟩
                  have sp := same_new (o := .lst []) hpl0
                  obtain ⟨pp, epp⟩ : ∃ pp : List Str, pp = [] := ⟨_, rfl⟩
                  have hpl : upd Hc pl (.lst []) pl = some (.lst (pp.map V.str)) := by rw [epp]; exact upd_same
                  have pok : ∀ q ∈ pp, ∃ t, (q, t) ∈ L' ∧ lcode t = 78 := fun q hq => by rw [epp] at hq; cases hq
                  have plen : pp.length ≤ 1 := by rw [epp]; exact Nat.zero_le _
                  obtain ⟨Hc, eHc⟩ : ∃ H9, H9 = upd Hc pl (.lst []) := ⟨_, rfl⟩
                  rw [← eHc] at sp hpl
                  change Ends.nx _ _ (upd _ pl (.lst []))
                  rw [← eHc]
                  have kc := kc.same sh sp
                  have d1 := sp _ _ d1
                  obtain ⟨tr, htr, hat⟩ := pickS (ys := ts) (i := x / 11 % (((ts.map V.str).length : Nat) : Int)) (Int.emod_nonneg _ (by rw [List.length_map]; omega)) (by rw [List.length_map]; exact Int.emod_lt_of_pos _ (by omega))
                  obtain ⟨tt, tm, tc⟩ := tD1 tr htr
                  refine ⟨_, rfl, _, rfl, _, _, rfl, rfl, cd, _, rfl, _, _, rfl, .inl ⟨_, SqL.of d1, rfl⟩, _, _, rfl, rfl, p0 (by rw [List.length_map]; omega), D1, _, _, _, rfl, rfl, SqL.of d1, hat, _, rfl, pl, _, rfl, .inl ⟨SqL.of hpl, fun q hq => ⟨by show 4 ≤ sizeLine; decide, fun a ha => ?_⟩⟩⟩
                  have sa := Same.new (o := .tup [V.str "note", V.str tr, V.ref q, V.str "w"]) (same_new (o := .tup (pp.map V.str)) hq) ha
                  have k5 := kc.same sh sa
                  have sh5 := (k5.gr.sh 1 sh).mono k5.gr.sub
                  obtain ⟨dx, vb, hp⟩ := sh_ins sh5
                  refine ⟨_, rfl, .inl ⟨rfl, _, SqL.of k5.na⟩, _, rfl, p, dx, _, rfl, hp, sh_no, _, rfl, p, a, o, t, g, L', .note tr pp "w", _, rfl, k5.gr.sub, k5.gr.tup, k5.gr.sh 1 sh, ⟨q, upd_same, same_new ha _ _ upd_same⟩, ⟨nm_len nmL lenL tm, fun z hz => let ⟨_, m, _⟩ := pok z hz; nm_len nmL lenL m, plen, (ln_small (by decide +kernel)).1⟩, ⟨⟨tt, tm, tc⟩, pok⟩, by omega, fun nm hs7 H7 L7 G7 m7 => ?_⟩
                  have k7 := k5.grew sh (G7.imp (F := Lf5) fun t e => by rw [e]; trivial)
                  refine ⟨nl, _, _, rfl, rfl, k7.na, lt_line (by rw [List.length_map]; omega), ?_⟩
                  exact ⟨_, _, _, _, _, _, _, _, _, _, hs7, L7, _, _, _, _, rfl, (k7.napp m7).up (by omega), by omega, by rw [List.length_append]; show _ + 1 ≤ _; omega, by omega⟩
          · refine iten (ne_i f4) ?_
            have alen := Paired.length kc.lf
            refine ⟨_, rfl, .inl ⟨rfl, _, SqL.of kc.la⟩, _, rfl, _, rfl, _, _, rfl, rfl, cd, lv, _, as, lss, 10 + 2 * j, rfl, kc.la, kc.lf, kc.lok, by omega, by omega, by omega, fun a ls H5 s5 ta5 ln5 len5 => ?_⟩
            have k5 := kc.same sh s5
            refine ⟨lv, _, _, rfl, rfl, k5.la, lt_line (by rw [List.length_map]; omega), ?_⟩
            have k6 := k5.lapp ta5 ln5 len5
            have sh6 := (k6.gr.sh 1 sh).mono k6.gr.sub
            obtain ⟨dx, vb, hp⟩ := sh_ins sh6
            have l6 := k6.gr.len
            refine ⟨_, rfl, .inl ⟨rfl, _, SqL.of k6.na⟩, _, rfl, p, dx, _, rfl, hp, sh_no, _, rfl, _, rfl, lv, _, _, _, rfl, rfl, SqL.of upd_same, atI_last _ _, ?_⟩
            refine ⟨p, a, o, t, g, L', .leaf ls, _, rfl, k6.gr.sub, k6.gr.tup, k6.gr.sh 1 sh, ta5.mono (tups_lst k5.la), ⟨fun z hz => (ln5 z hz).1, by omega⟩, trivial, by omega, fun nm hs7 H7 L7 G7 m7 => ?_⟩
            have k7 := k6.grew sh (G7.imp (F := Lf5) fun t e => by rw [e]; exact fun z hz => (ln5 z hz).2)
            refine ⟨nl, _, _, rfl, rfl, k7.na, lt_line (by rw [List.length_map]; omega), ?_⟩
            exact ⟨_, _, _, _, _, _, _, _, _, _, hs7, L7, _, _, _, _, rfl, (k7.napp m7).up (Nat.le_refl _), by omega, by rw [List.length_append]; show _ + 1 ≤ _; omega, by rw [List.length_append]; show _ + 1 ≤ _; omega⟩
        · have lpos : 0 < lss.length := List.length_pos_iff.mpr ln0
          have alen := Paired.length kc.lf
          refine itep (by simpa using ln0) ?_
          refine fun fd hfd => ?_
          have sfd := same_new (o := .dK []) hfd
          refine ⟨_, rfl, _, _, rfl, rfl, cd, _, _, rfl, rfl, p0, _, rfl, by omega, by omega, for_it walk_range (fun n σ H' => ∃ (v9 v10 : Option V) (fs : Own), σ = [some (.ref p), some (.ref c), some (.ref nl), some (.ref lv), some (.int x), some (.int f), some (.ref D1), some (.ref D2), some (.ref fd), v9, v10, v11, v12, v13] ∧ Same Hc H' ∧ H' fd = some (.dK (ownV fs)) ∧ fs.length ≤ n ∧ ∀ e ∈ fs, e.1 ∈ P4 ∧ ∃ ls, LsAt H' e.2 ls ∧ (∀ l ∈ ls, Ln l) ∧ ls.length ≤ 900)
            ⟨_, _, [], rfl, sfd, upd_same, Nat.le_refl _, fun _ h => (nomatch h)⟩ (fun _ _ _ _ _ => trivial) ?_ ?_⟩
          · rintro n y σ H5 H6 hn ⟨v9, v10, fs, rfl, sH, hfd5, lfs, fok⟩ ⟨rfl, hy⟩
            have hy' : y = V.int (0 + ((n : Nat) : Int)) := hy
            subst hy'
            refine ⟨by show 4 ≤ sizeLine; decide, fun u hu => ?_⟩
            have su := same_new (o := .lst [V.str "a", V.str "b/c", V.str "b/d", V.str "ab/a/a"]) hu
            obtain ⟨pt, hpt, hat⟩ := pickS (ys := P4) (i := (x / 28 + (0 + ((n : Nat) : Int))) % 4) (Int.emod_nonneg _ (by decide)) (Int.emod_lt_of_pos _ (by decide))
            refine ⟨_, rfl, _, _, rfl, rfl, cd, _, rfl, _, _, rfl, rfl, _, _, rfl, rfl, p0, u, _, _, _, rfl, rfl, SqL.of upd_same, hat, ?_⟩
            have sHu := Same.trans sH su
            have la6 := sHu _ _ kc.la
            obtain ⟨v, hv, hat2⟩ := pick (xs := as.map V.ref) (i := (x / 11 + (0 + ((n : Nat) : Int))) % (((as.map V.ref).length : Nat) : Int)) (Int.emod_nonneg _ (by rw [List.length_map]; omega)) (Int.emod_lt_of_pos _ (by rw [List.length_map]; omega))
            obtain ⟨a, ha, rfl⟩ := List.mem_map.mp hv
            obtain ⟨n2, hn2⟩ := List.mem_iff_getElem?.mp ha
            obtain ⟨ls, hls, q, t1, t2⟩ := paired_ix (LfAt.mono (tups_of sHu) kc.lf) hn2
            obtain ⟨l1, l2⟩ := kc.lok ls (List.mem_of_getElem? hls)
            refine ⟨_, rfl, _, rfl, _, _, rfl, rfl, cd, _, rfl, _, _, rfl, rfl, _, rfl, _, _, rfl, .inl ⟨_, SqL.of la6, rfl⟩, _, _, rfl, rfl, p0 (by rw [List.length_map]; omega), lv, _, _, _, rfl, rfl, SqL.of la6, hat2, a, _, _, _, rfl, rfl, SqT.of t1, rfl, _, rfl, _, rfl, fd, _, rfl, DPut.k (k := Sum.inr pt) (su _ _ hfd5) (lt_line (by rw [ownV_len]; omega)), ?_⟩
            rw [show putK (ownV fs) (Sum.inr pt) (V.ref q) = ownV (dput fs pt q) from dV_put V.ref _ _ _]
            have tu : Tups H6 (upd (upd H6 u (.lst [V.str "a", V.str "b/c", V.str "b/d", V.str "ab/a/a"])) fd (.dK (ownV (dput fs pt q)))) := Tups.trans (tups_of su) (tups_dk (su _ _ hfd5))
            refine ⟨_, _, dput fs pt q, rfl, Same.mut sHu hfd, upd_same, by have := dput_len fs pt q; omega, fun e he => ?_⟩
            rcases mem_dput he with z | z
            · obtain ⟨b1, ls', b2, b3⟩ := fok e z
              exact ⟨b1, ls', tu _ _ b2, b3⟩
            · rw [z]
              exact ⟨hpt, ls, tups_dk (su _ _ hfd5) _ _ t2, l1, by omega⟩
          · rintro σ H5 ⟨v9, v10, fs, rfl, sH, hfd5, lfs, fok⟩
            have lfs3 : fs.length ≤ 3 := by omega
            have kx := kc.grew sh (Grew.sameX (x := fd) kc.gr.sub kc.gr.tup sH hfd (fun xs z => by rw [hfd5] at z; cases z))
            refine ⟨_, rfl, .inl ⟨rfl, _, SqL.of kx.na⟩, _, rfl, _, rfl, p, fd, o, t, g, L', fs, _, rfl, kx.gr.sub, kx.gr.tup, kx.gr.sh 1 sh, hfd5, if_pos rfl, ⟨fun e he => ?_, fun e he => ?_⟩, by omega, by omega, fun nm hs7 H7 L7 th G7 m7 l7 => ?_⟩
            · obtain ⟨b1, ls', b2, b3, b4⟩ := fok e he
              exact ⟨p4_path _ b1, ls', b2, ⟨fun z hz => (b3 z hz).1, by omega⟩, fun z hz => (b3 z hz).2⟩
            · obtain ⟨b1, _⟩ := fok e he
              obtain ⟨q1, q2⟩ := p4_split _ b1
              exact ⟨q1, free_sub q2 fun y hy => by obtain ⟨e2, he2, rfl⟩ := List.mem_map.mp hy; exact (fok e2 he2).1⟩
            · have k7 := kx.grew sh G7
              refine ⟨nl, _, _, rfl, rfl, k7.na, lt_line (by rw [List.length_map]; omega), ?_⟩
              exact ⟨_, _, _, _, _, _, _, _, _, _, hs7, L7, _, _, _, _, rfl, (k7.napp m7).up (by omega), by omega, by rw [List.length_append]; show _ + 1 ≤ _; omega, by omega⟩
      · refine iten (by simpa using f5) ?_
        have nmL := (kc.gr.sh 1 sh).nm
        have lowT : ∀ {z : Str} {t : Thing}, (z, t) ∈ L' → PyData.strOk z = true := fun h => nm_low nmL (nms_mem h)
        refine ⟨_, rfl, rfl, _, rfl, ?_⟩
        by_cases f4 : f = 4
        · refine itep (decide_eq_true (show V.int f = V.int 4 by rw [f4])) ?_
          refine ⟨_, rfl, by show 0 ≤ sizeLine; decide, fun e1 he1 => ?_⟩
          have se := same_new (o := .lst []) he1
          obtain ⟨Hc, eHc⟩ : ∃ H9, H9 = upd Hc e1 (.lst []) := ⟨_, rfl⟩
          have ue : Hc e1 = some (.lst []) := by rw [eHc]; exact upd_same
          rw [← eHc] at se ⊢
          have kc := kc.same sh se
          have d1 := se _ _ d1
          have d2 := se _ _ d2
          refine ⟨.list (ts.map .str), .list [], dp_strs d1, .lst (SqL.of ue) .nil, shaped_strs (fun z hz => let ⟨_, m, _⟩ := tD1 z hz; lowT m), by decide +kernel, _, rfl, ?_⟩
          rw [eqv_nil]
          by_cases tn : ts = []
          · refine iten (by rw [tn]; decide) ?_
            have alen := Paired.length kc.lf
            refine ⟨_, rfl, .inl ⟨rfl, _, SqL.of kc.la⟩, _, rfl, _, rfl, _, _, rfl, rfl, cd, lv, _, as, lss, 10 + 2 * j, rfl, kc.la, kc.lf, kc.lok, by omega, by omega, by omega, fun a ls H5 s5 ta5 ln5 len5 => ?_⟩
            have k5 := kc.same sh s5
            refine ⟨lv, _, _, rfl, rfl, k5.la, lt_line (by rw [List.length_map]; omega), ?_⟩
            have k6 := k5.lapp ta5 ln5 len5
            have sh6 := (k6.gr.sh 1 sh).mono k6.gr.sub
            obtain ⟨dx, vb, hp⟩ := sh_ins sh6
            have l6 := k6.gr.len
            refine ⟨_, rfl, .inl ⟨rfl, _, SqL.of k6.na⟩, _, rfl, p, dx, _, rfl, hp, sh_no, _, rfl, _, rfl, lv, _, _, _, rfl, rfl, SqL.of upd_same, atI_last _ _, ?_⟩
            refine ⟨p, a, o, t, g, L', .leaf ls, _, rfl, k6.gr.sub, k6.gr.tup, k6.gr.sh 1 sh, ta5.mono (tups_lst k5.la), ⟨fun z hz => (ln5 z hz).1, by omega⟩, trivial, by omega, fun nm hs7 H7 L7 G7 m7 => ?_⟩
            have k7 := k6.grew sh (G7.imp (F := Lf5) fun t e => by rw [e]; exact fun z hz => (ln5 z hz).2)
            refine ⟨nl, _, _, rfl, rfl, k7.na, lt_line (by rw [List.length_map]; omega), ?_⟩
            exact ⟨_, _, _, _, _, _, _, _, _, _, hs7, L7, _, _, _, _, rfl, (k7.napp m7).up (Nat.le_refl _), by omega, by rw [List.length_append]; show _ + 1 ≤ _; omega, by rw [List.length_append]; show _ + 1 ≤ _; omega⟩
          · have tpos : 0 < ts.length := List.length_pos_iff.mpr tn
            refine itep (by simpa using tn) ?_
            refine ⟨_, rfl, by show 0 ≤ sizeLine; decide, fun e2 he2 => ?_⟩
            have se := same_new (o := .lst []) he2
            obtain ⟨Hc, eHc⟩ : ∃ H9, H9 = upd Hc e2 (.lst []) := ⟨_, rfl⟩
            have ue : Hc e2 = some (.lst []) := by rw [eHc]; exact upd_same
            rw [← eHc] at se ⊢
            have kc := kc.same sh se
            have d1 := se _ _ d1
            have d2 := se _ _ d2
            refine ⟨.list (nts.map .str), .list [], dp_strs d2, .lst (SqL.of ue) .nil, shaped_strs (fun z hz => let ⟨_, m, _⟩ := tD2 z hz; lowT m), by decide +kernel, _, rfl, ?_⟩
            rw [eqv_nil]
            by_cases nn : nts = []
            · refine iten (by rw [nn]; decide) ?_
              refine ⟨by show 0 ≤ sizeLine; decide, fun pl hpl0 => ?_⟩
              have sp := same_new (o := .lst []) hpl0
              obtain ⟨pp, epp⟩ : ∃ pp : List Str, pp = [] := ⟨_, rfl⟩
              have hpl : upd Hc pl (.lst []) pl = some (.lst (pp.map V.str)) := by rw [epp]; exact upd_same
              have pok : ∀ q ∈ pp, ∃ t, (q, t) ∈ L' ∧ lcode t = 78 := fun q hq => by rw [epp] at hq; cases hq
              have plen : pp.length ≤ 1 := by rw [epp]; exact Nat.zero_le _
              obtain ⟨Hc, eHc⟩ : ∃ H9, H9 = upd Hc pl (.lst []) := ⟨_, rfl⟩
              rw [← eHc] at sp hpl
              change Ends.nx _ _ (upd _ pl (.lst []))
              rw [← eHc]
              have kc := kc.same sh sp
              have d1 := sp _ _ d1
              obtain ⟨tr, htr, hat⟩ := pickS (ys := ts) (i := x / 11 % (((ts.map V.str).length : Nat) : Int)) (Int.emod_nonneg _ (by rw [List.length_map]; omega)) (by rw [List.length_map]; exact Int.emod_lt_of_pos _ (by omega))
              obtain ⟨tt, tm, tc⟩ := tD1 tr htr
              refine ⟨_, rfl, _, rfl, _, _, rfl, rfl, cd, _, rfl, _, _, rfl, .inl ⟨_, SqL.of d1, rfl⟩, _, _, rfl, rfl, p0 (by rw [List.length_map]; omega), D1, _, _, _, rfl, rfl, SqL.of d1, hat, _, rfl, pl, _, rfl, .inl ⟨SqL.of hpl, fun q hq => ⟨by show 4 ≤ sizeLine; decide, fun a ha => ?_⟩⟩⟩
              have sa := Same.new (o := .tup [V.str "note", V.str tr, V.ref q, V.str "w"]) (same_new (o := .tup (pp.map V.str)) hq) ha
              have k5 := kc.same sh sa
              have sh5 := (k5.gr.sh 1 sh).mono k5.gr.sub
              obtain ⟨dx, vb, hp⟩ := sh_ins sh5
              refine ⟨_, rfl, .inl ⟨rfl, _, SqL.of k5.na⟩, _, rfl, p, dx, _, rfl, hp, sh_no, _, rfl, p, a, o, t, g, L', .note tr pp "w", _, rfl, k5.gr.sub, k5.gr.tup, k5.gr.sh 1 sh, ⟨q, upd_same, same_new ha _ _ upd_same⟩, ⟨nm_len nmL lenL tm, fun z hz => let ⟨_, m, _⟩ := pok z hz; nm_len nmL lenL m, plen, (ln_small (by decide +kernel)).1⟩, ⟨⟨tt, tm, tc⟩, pok⟩, by omega, fun nm hs7 H7 L7 G7 m7 => ?_⟩
              have k7 := k5.grew sh (G7.imp (F := Lf5) fun t e => by rw [e]; trivial)
              refine ⟨nl, _, _, rfl, rfl, k7.na, lt_line (by rw [List.length_map]; omega), ?_⟩
              exact ⟨_, _, _, _, _, _, _, _, _, _, hs7, L7, _, _, _, _, rfl, (k7.napp m7).up (by omega), by omega, by rw [List.length_append]; show _ + 1 ≤ _; omega, by omega⟩
            · have npos : 0 < nts.length := List.length_pos_iff.mpr nn
              refine itep (by simpa using nn) ?_
              refine ⟨_, rfl, _, _, rfl, rfl, cd, _, _, rfl, rfl, p0, _, _, rfl, rfl, _, rfl, ?_⟩
              by_cases c3 : x / 14 % 3 > 0
              · refine itep (decide_eq_true c3) ?_
                obtain ⟨nz, hnz, hat2⟩ := pickS (ys := nts) (i := x / 7 % (((nts.map V.str).length : Nat) : Int)) (Int.emod_nonneg _ (by rw [List.length_map]; omega)) (by rw [List.length_map]; exact Int.emod_lt_of_pos _ (by omega))
                refine ⟨_, rfl, _, rfl, _, _, rfl, rfl, cd, _, rfl, _, _, rfl, .inl ⟨_, SqL.of d2, rfl⟩, _, _, rfl, rfl, p0 (by rw [List.length_map]; omega), D2, _, _, _, rfl, rfl, SqL.of d2, hat2, by show 1 ≤ sizeLine; decide, fun pl hpl0 => ?_⟩
                have sp := same_new (o := .lst [V.str nz]) hpl0
                obtain ⟨pp, epp⟩ : ∃ pp : List Str, pp = [nz] := ⟨_, rfl⟩
                have hpl : upd Hc pl (.lst [V.str nz]) pl = some (.lst (pp.map V.str)) := by rw [epp]; exact upd_same
                have pok : ∀ q ∈ pp, ∃ t, (q, t) ∈ L' ∧ lcode t = 78 := fun q hq => by rw [epp] at hq; rw [List.mem_singleton.mp hq]; exact tD2 nz hnz
                have plen : pp.length ≤ 1 := by rw [epp]; exact Nat.le_refl _
                obtain ⟨Hc, eHc⟩ : ∃ H9, H9 = upd Hc pl (.lst [V.str nz]) := ⟨_, rfl⟩
                rw [← eHc] at sp hpl
                change Ends.nx _ _ (upd _ pl (.lst [V.str nz]))
                rw [← eHc]
                have kc := kc.same sh sp
                have d1 := sp _ _ d1
                obtain ⟨tr, htr, hat⟩ := pickS (ys := ts) (i := x / 11 % (((ts.map V.str).length : Nat) : Int)) (Int.emod_nonneg _ (by rw [List.length_map]; omega)) (by rw [List.length_map]; exact Int.emod_lt_of_pos _ (by omega))
                obtain ⟨tt, tm, tc⟩ := tD1 tr htr
                refine ⟨_, rfl, _, rfl, _, _, rfl, rfl, cd, _, rfl, _, _, rfl, .inl ⟨_, SqL.of d1, rfl⟩, _, _, rfl, rfl, p0 (by rw [List.length_map]; omega), D1, _, _, _, rfl, rfl, SqL.of d1, hat, _, rfl, pl, _, rfl, .inl ⟨SqL.of hpl, fun q hq => ⟨by show 4 ≤ sizeLine; decide, fun a ha => ?_⟩⟩⟩
                have sa := Same.new (o := .tup [V.str "note", V.str tr, V.ref q, V.str "w"]) (same_new (o := .tup (pp.map V.str)) hq) ha
                have k5 := kc.same sh sa
                have sh5 := (k5.gr.sh 1 sh).mono k5.gr.sub
                obtain ⟨dx, vb, hp⟩ := sh_ins sh5
                refine ⟨_, rfl, .inl ⟨rfl, _, SqL.of k5.na⟩, _, rfl, p, dx, _, rfl, hp, sh_no, _, rfl, p, a, o, t, g, L', .note tr pp "w", _, rfl, k5.gr.sub, k5.gr.tup, k5.gr.sh 1 sh, ⟨q, upd_same, same_new ha _ _ upd_same⟩, ⟨nm_len nmL lenL tm, fun z hz => let ⟨_, m, _⟩ := pok z hz; nm_len nmL lenL m, plen, (ln_small (by decide +kernel)).1⟩, ⟨⟨tt, tm, tc⟩, pok⟩, by omega, fun nm hs7 H7 L7 G7 m7 => ?_⟩
                have k7 := k5.grew sh (G7.imp (F := Lf5) fun t e => by rw [e]; trivial)
                refine ⟨nl, _, _, rfl, rfl, k7.na, lt_line (by rw [List.length_map]; omega), ?_⟩
                exact ⟨_, _, _, _, _, _, _, _, _, _, hs7, L7, _, _, _, _, rfl, (k7.napp m7).up (by omega), by omega, by rw [List.length_append]; show _ + 1 ≤ _; omega, by omega⟩
              · refine iten (by simpa using c3) ?_
                refine ⟨by show 0 ≤ sizeLine; decide, fun pl hpl0 => ?_⟩
                have sp := same_new (o := .lst []) hpl0
                obtain ⟨pp, epp⟩ : ∃ pp : List Str, pp = [] := ⟨_, rfl⟩
                have hpl : upd Hc pl (.lst []) pl = some (.lst (pp.map V.str)) := by rw [epp]; exact upd_same
                have pok : ∀ q ∈ pp, ∃ t, (q, t) ∈ L' ∧ lcode t = 78 := fun q hq => by rw [epp] at hq; cases hq
                have plen : pp.length ≤ 1 := by rw [epp]; exact Nat.zero_le _
                obtain ⟨Hc, eHc⟩ : ∃ H9, H9 = upd Hc pl (.lst []) := ⟨_, rfl⟩
                rw [← eHc] at sp hpl
                change Ends.nx _ _ (upd _ pl (.lst []))
                rw [← eHc]
                have kc := kc.same sh sp
                have d1 := sp _ _ d1
                obtain ⟨tr, htr, hat⟩ := pickS (ys := ts) (i := x / 11 % (((ts.map V.str).length : Nat) : Int)) (Int.emod_nonneg _ (by rw [List.length_map]; omega)) (by rw [List.length_map]; exact Int.emod_lt_of_pos _ (by omega))
                obtain ⟨tt, tm, tc⟩ := tD1 tr htr
                refine ⟨_, rfl, _, rfl, _, _, rfl, rfl, cd, _, rfl, _, _, rfl, .inl ⟨_, SqL.of d1, rfl⟩, _, _, rfl, rfl, p0 (by rw [List.length_map]; omega), D1, _, _, _, rfl, rfl, SqL.of d1, hat, _, rfl, pl, _, rfl, .inl ⟨SqL.of hpl, fun q hq => ⟨by show 4 ≤ sizeLine; decide, fun a ha => ?_⟩⟩⟩
                have sa := Same.new (o := .tup [V.str "note", V.str tr, V.ref q, V.str "w"]) (same_new (o := .tup (pp.map V.str)) hq) ha
                have k5 := kc.same sh sa
                have sh5 := (k5.gr.sh 1 sh).mono k5.gr.sub
                obtain ⟨dx, vb, hp⟩ := sh_ins sh5
                refine ⟨_, rfl, .inl ⟨rfl, _, SqL.of k5.na⟩, _, rfl, p, dx, _, rfl, hp, sh_no, _, rfl, p, a, o, t, g, L', .note tr pp "w", _, rfl, k5.gr.sub, k5.gr.tup, k5.gr.sh 1 sh, ⟨q, upd_same, same_new ha _ _ upd_same⟩, ⟨nm_len nmL lenL tm, fun z hz => let ⟨_, m, _⟩ := pok z hz; nm_len nmL lenL m, plen, (ln_small (by decide +kernel)).1⟩, ⟨⟨tt, tm, tc⟩, pok⟩, by omega, fun nm hs7 H7 L7 G7 m7 => ?_⟩
                have k7 := k5.grew sh (G7.imp (F := Lf5) fun t e => by rw [e]; trivial)
                refine ⟨nl, _, _, rfl, rfl, k7.na, lt_line (by rw [List.length_map]; omega), ?_⟩
                exact ⟨_, _, _, _, _, _, _, _, _, _, hs7, L7, _, _, _, _, rfl, (k7.napp m7).up (by omega), by omega, by rw [List.length_append]; show _ + 1 ≤ _; omega, by omega⟩
        · refine iten (ne_i f4) ?_
          have alen := Paired.length kc.lf
          refine ⟨_, rfl, .inl ⟨rfl, _, SqL.of kc.la⟩, _, rfl, _, rfl, _, _, rfl, rfl, cd, lv, _, as, lss, 10 + 2 * j, rfl, kc.la, kc.lf, kc.lok, by omega, by omega, by omega, fun a ls H5 s5 ta5 ln5 len5 => ?_⟩
          have k5 := kc.same sh s5
          refine ⟨lv, _, _, rfl, rfl, k5.la, lt_line (by rw [List.length_map]; omega), ?_⟩
          have k6 := k5.lapp ta5 ln5 len5
          have sh6 := (k6.gr.sh 1 sh).mono k6.gr.sub
          obtain ⟨dx, vb, hp⟩ := sh_ins sh6
          have l6 := k6.gr.len
          refine ⟨_, rfl, .inl ⟨rfl, _, SqL.of k6.na⟩, _, rfl, p, dx, _, rfl, hp, sh_no, _, rfl, _, rfl, lv, _, _, _, rfl, rfl, SqL.of upd_same, atI_last _ _, ?_⟩
          refine ⟨p, a, o, t, g, L', .leaf ls, _, rfl, k6.gr.sub, k6.gr.tup, k6.gr.sh 1 sh, ta5.mono (tups_lst k5.la), ⟨fun z hz => (ln5 z hz).1, by omega⟩, trivial, by omega, fun nm hs7 H7 L7 G7 m7 => ?_⟩
          have k7 := k6.grew sh (G7.imp (F := Lf5) fun t e => by rw [e]; exact fun z hz => (ln5 z hz).2)
          refine ⟨nl, _, _, rfl, rfl, k7.na, lt_line (by rw [List.length_map]; omega), ?_⟩
          exact ⟨_, _, _, _, _, _, _, _, _, _, hs7, L7, _, _, _, _, rfl, (k7.napp m7).up (Nat.le_refl _), by omega, by rw [List.length_append]; show _ + 1 ≤ _; omega, by rw [List.length_append]; show _ + 1 ≤ _; omega⟩
    · rintro σ H1 ⟨v4, v5, v6, v7, v8, v9, v10, v11, v12, v13, hs', L', cc, names, as, lss, rfl, k1, ccj, nlj, llj⟩
      rw [List.length_map] at ccj
      exact ⟨_, rfl, k _ hs' H1 L' (k1.gr.le ccj)⟩
end
end An

namespace An
open PySem PySem.Spec L2
def addS (S : List Str) (z : Str) : List Str := if z ∈ S then S else S ++ [z]
theorem addS_put (S : List Str) (z : Str) : putK (seenV S) (Sum.inr z) (V.bl true) = seenV (addS S z) := by
  unfold addS
  split
  · rename_i h; exact seen_put_in h
  · rename_i h; exact seen_put h
theorem mem_addS {S : List Str} {z y : Str} : y ∈ addS S z ↔ y ∈ S ∨ y = z := by
  unfold addS
  split
  · rename_i h; exact ⟨.inl, fun q => q.elim id fun e => by rw [e]; exact h⟩
  · rw [List.mem_append, List.mem_singleton]
theorem addS_nd {S : List Str} (nd : S.Nodup) (z : Str) : (addS S z).Nodup := by
  unfold addS
  split
  · exact nd
  · rename_i h
    exact List.nodup_append.mpr ⟨nd, List.nodup_cons.mpr ⟨fun h => (nomatch h), List.nodup_nil⟩, fun x hx y hy e => h (by rw [List.mem_singleton.mp hy] at e; rw [← e]; exact hx)⟩
theorem addS_len (S : List Str) (z : Str) : (addS S z).length ≤ S.length + 1 := by
  unfold addS
  split
  · omega
  · rw [List.length_append]; exact Nat.le_refl _
/-- kids stand ahead -/
theorem kid_ahead {L : Cont} (o : StOk L) {n m : Nat} {z : Str} {t : Thing} {c : Str} {t2 : Thing} (h : L[n]? = some (z, t)) (hc : c ∈ t.names) (h2 : L[m]? = some (c, t2)) : m < n := by
  obtain ⟨hn, en⟩ := List.getElem?_eq_some_iff.mp h
  have e : L = L.take n ++ (z, t) :: L.drop (n + 1) := by
    rw [← en, ← List.drop_eq_getElem_cons hn, List.take_append_drop]
  have hk := o.kb _ _ _ e c hc
  rw [nms_take] at hk
  obtain ⟨i, hi⟩ := List.mem_iff_getElem?.mp hk
  rw [List.getElem?_take] at hi
  split at hi
  · rename_i lt
    have e2 : (nms L)[m]? = some c := by unfold nms; rw [List.getElem?_map, h2]; rfl
    have := nodup_ix o.nd hi e2
    omega
  · cases hi
section
variable {P : Program} {w : World} {K : PySem.W.Frag} {mg : Str → Option Value} {base : Heap}
/-! ### closed -/
def spClosed (P : Program) (w : World) (K : PySem.W.Frag) : Sp := fun vs H Q _ => ∃ (p r : Addr) (L : Cont) (roots : List Str), vs = [.ref p, .ref r] ∧ StB P w (He.ga K "Pack") (He.ga K "Shelf") 1 false H p L ∧ H r = some (.lst (roots.map V.str)) ∧ (∀ z ∈ roots, z ∈ nms L) ∧ roots.length ≤ 2000 ∧
  ∀ l H', H l = none → Same H H' → H' l = some (.lst ((nms (sub L roots)).map V.str)) → Q (.ref l) H'
theorem sc_closed : FnScope ["_law_store", "_law_roots", "_law_found", "_law_root", "_law_name", "_law_thing", "_law_within", "_law_other", "_law_row"] ["_law_store", "_law_roots"] (defScope s_closed) := ⟨rfl, rfl, rfl, by decide +kernel, rfl, by decide +kernel, by decide +kernel⟩
theorem ok_closed (T : Tx K mg) : Gf P w K mg base CX0 15 (He.ga K "_law_closed") ["_law_store", "_law_roots"] (spClosed P w K) := by
  have W : Api P w K mg base 1 14 false := api1 T false
  refine gf0_of T.d_closed sc_closed (fun _ _ _ _ _ _ us hl => match us, hl with | [_, _], _ => rfl) (fun vs H Q E h => ?_) (fun cdv A outer s H vs Q E hr h => ?_)
  · obtain ⟨p, r, L, roots, rfl, _⟩ := h; rfl
  · obtain ⟨p, r, L, roots, rfl, sb, hr0, hin, lr, k⟩ := h
    refine ⟨_, pss_cons (ps_set (i := 2) sc_closed.nd rfl (Or.inr rfl) pe_dnewK)
      (pss_cons (ps_for PassesOwn.never rfl (pi_list (pv 1)) (pg_name (i := 3) sc_closed.nd rfl (Or.inl rfl))
        (pss_one (ps_dput (hu_of hr) (pv 2) (pv 3) pe_bl rfl)))
      (pss_cons (ps_for PassesOwn.never rfl (pi_reversed rfl T.n_reversed (pa_cons (pe_mt0 W.cl W.m_names W.G_names (hr.mono (by decide)) pass0 (pv 0)) pa_nil)) (pg_name (i := 4) sc_closed.nd rfl (Or.inl rfl))
        (pss_cons (ps_set (i := 5) sc_closed.nd rfl (Or.inl rfl) (pe_mt W.cl W.m_thing W.G_thing (hr.mono (by decide)) passL (pv 0) (pa_cons (pv 4) pa_nil)))
        (pss_cons (ps_set (i := 6) sc_closed.nd rfl (Or.inl rfl) (pe_ifExp (pt_cmpR op_eq (pe_ix (r := rIxT K) ix_tup (pv 5) pe_int (fun _ _ => rfl)) pe_str (nomark _)) (pe_lst pa_nil) (pe_ifExp (pt_cmpR op_eq (pe_ix (r := rIxT K) ix_tup (pv 5) pe_int (fun _ _ => rfl)) pe_str (nomark _)) (pe_lc (own := [("_law_row", 8)]) (g := gName 8) rfl sc_closed.nd (pi_tup (pe_ix (r := rIxT K) ix_tup (pv 5) pe_int (fun _ _ => rfl))) (blkOk_by (own := [("_law_row", 8)]) (N := ["_law_store", "_law_roots", "_law_found", "_law_root", "_law_name", "_law_thing", "_law_within", "_law_other", "_law_row"]) (sc := defScope s_closed) (by decide +kernel)) (fun _ _ _ _ _ => pg_name (i := 8) sc_closed.nd rfl (Or.inl rfl)) (fun _ _ _ _ _ => pts_nil) (fun _ _ _ _ _ => (pe_ix (r := rIxT K) ix_tup (pv 8) pe_int (fun _ _ => rfl)))) (pe_lst (pa_cons (pe_ix (r := rIxT K) ix_tup (pv 5) pe_int (fun _ _ => rfl)) pa_nil)))))
        (pss_cons (ps_if (pt_cmpR op_eq (pe_ix (r := rIxT K) ix_tup (pv 5) pe_int (fun _ _ => rfl)) pe_str (nomark _))
          (pss_one (ps_set (i := 6) sc_closed.nd rfl (Or.inl rfl) (pe_op op_cat (pv 6) (pe_callTy (r := rListK K) call_list_of rfl T.n_list (by decide +kernel) (pa_cons (pe_ix (r := rIxT K) ix_tup (pv 5) pe_int (fun _ _ => rfl)) pa_nil)))))
          (pss_nil))
        (pss_one (ps_for PassesOwn.never rfl (pi_list (pv 6)) (pg_name (i := 7) sc_closed.nd rfl (Or.inl rfl))
          (pss_one (ps_if (pt_cmp (pc_din (hu_of hr) (pv 4) (pv 2)) (by rfl))
            (pss_one (ps_dput (hu_of hr) (pv 2) (pv 7) pe_bl rfl))
            (pss_nil)))))))))
      (pss_one (ps_ret (pe_lc (own := [("_law_name", 4)]) (g := gName 4) rfl sc_closed.nd (pi_list (pe_mt0 W.cl W.m_names W.G_names (hr.mono (by decide)) pass0 (pv 0))) (blkOk_by (own := [("_law_name", 4)]) (N := ["_law_store", "_law_roots", "_law_found", "_law_root", "_law_name", "_law_thing", "_law_within", "_law_other", "_law_row"]) (sc := defScope s_closed) (by decide +kernel)) (fun _ _ _ _ _ => pg_name (i := 4) sc_closed.nd rfl (Or.inl rfl)) (fun _ _ _ _ _ => pts_one (pt_cmp (pc_din (hu_of hr) (pv 4) (pv 2)) (by rfl))) (fun _ _ _ _ _ => (pv 4))))))), ?_⟩
    have ok := sb.ok
    have lenN : (nms L).length ≤ 1000 := by unfold nms; rw [List.length_map]; exact ok.sz
    obtain ⟨dx, fs, i1, i2, i3, i4⟩ := st_ins sb
    refine fun d hd0 => ?_
    have s0 := same_new (o := .dK []) hd0
    refine ⟨_, rfl, r, rfl, ⟨_, SqL.of (s0 _ _ hr0)⟩, for_it walk_list (fun i σ H' => ∃ (v3 : Option V) (S : List Str), σ = [some (.ref p), some (.ref r), some (.ref d), v3, none, none, none, none, none] ∧ Same H H' ∧ H' d = some (.dK (seenV S)) ∧ S.Nodup ∧ (∀ z, z ∈ S ↔ z ∈ roots.take i)) ⟨none, [], rfl, s0, upd_same, List.nodup_nil, fun z => by rw [List.take_zero]⟩ (fun _ _ _ _ ⟨_, _, _, q, _⟩ => SqL.of (q _ _ hr0)) ?_ ?_⟩
    · rintro i x σ H1 H2 hi ⟨v3, S, rfl, hs, hd, nd, me⟩ ⟨rfl, hx⟩
      obtain ⟨z, hz, rfl⟩ := map_get hx
      have l2 := nd_sub_len nd (T := nms L) fun y hy => hin y (List.mem_of_mem_take ((me y).mp hy))
      refine ⟨_, rfl, _, rfl, d, _, rfl, DPut.k (k := Sum.inr z) hd (by rw [seen_len]; exact lt_line (by omega)), ?_⟩
      rw [addS_put]
      refine ⟨_, addS S z, rfl, Same.mut hs hd0, upd_same, addS_nd nd z, fun y => ?_⟩
      rw [mem_addS, me, take_snoc hz, List.mem_append, List.mem_singleton]
    · rintro σ H1 ⟨v3, S, rfl, hs, hd, nd, me⟩
      rw [List.length_map, List.take_length] at me
      refine ⟨_, rfl, p, dx, fs, rfl, hs _ _ i1, i4, p, L, rfl, sb.mono hs, fun lq H2 hlq s2 hq2 => ?_⟩
      have lq0 : H lq = none := L2.Same.free hs hlq
      refine ⟨lq, _, rfl, SqL.of hq2, for_it walk_rev (fun i σ H' => ∃ (v3 v4 v5 v6 v7 v8 : Option V) (S : List Str), σ = [some (.ref p), some (.ref r), some (.ref d), v3, v4, v5, v6, v7, v8] ∧ Same H H' ∧ H' d = some (.dK (seenV S)) ∧ H' lq = some (.lst ((nms L).map V.str)) ∧ S.Nodup ∧ (∀ z ∈ S, z ∈ nms L) ∧ (∀ z ∈ S, Reach L roots z) ∧ (∀ z ∈ roots, z ∈ S) ∧
          (∀ n z t c, L.length - i ≤ n → L[n]? = some (z, t) → z ∈ S → c ∈ t.names → c ∈ S))
        ⟨v3, none, none, none, none, none, S, rfl, Same.trans hs s2, s2 _ _ hd, hq2, nd, fun z hz => hin z ((me z).mp hz), fun z hz => .root ((me z).mp hz), fun z hz => (me z).mpr hz, fun n z t c hn hz => by
          have := (List.getElem?_eq_some_iff.mp hz).1
          omega⟩ (fun _ _ _ _ ⟨_, _, _, _, _, _, _, _, _, _, q, _⟩ => SqL.of q) ?_ ?_⟩
      · rintro i x σ H3 H3' hi ⟨v3, v4, v5, v6, v7, v8, S, rfl, hs, hd, hq2, nd, si, rc, rts, cl⟩ ⟨rfl, hx⟩
        obtain ⟨z, hz, rfl⟩ := map_get hx
        have e1 : ((nms L).map V.str).length = L.length := by unfold nms; rw [List.length_map, List.length_map]
        rw [e1] at hz hi
        obtain ⟨⟨y, t⟩, hzt, ez⟩ := map_get hz
        subst ez
        have hmem : (z, t) ∈ L := List.mem_of_getElem? hzt
        obtain ⟨nm, enm⟩ : ∃ nm, nm = t.names := ⟨_, rfl⟩
        have tok := ok.th _ hmem
        have nl := names_len tok
        refine ⟨_, rfl, p, dx, fs, rfl, hs _ _ i1, i3, _, rfl, p, _, L, rfl, sb.mono hs, trivial, .inl ⟨z, t, hmem, rfl, fun a H3a s3a hta => ?_⟩⟩
        cases t with
        | leaf ls =>
          obtain ⟨q, h1, h2⟩ := hta
          refine ⟨_, rfl, a, _, _, _, rfl, rfl, SqT.of h1, rfl, rfl, _, rfl, ?_⟩
          refine itep (decide_eq_true rfl) ?_
          refine ⟨by show 0 ≤ sizeLine; decide, fun wl hwl0 => ?_⟩
          have sw := Same.new (o := .lst []) s3a hwl0
          have hw : upd H3a wl (.lst []) wl = some (.lst (nm.map V.str)) := by rw [upd_same, enm]; rfl
          have h1' : upd H3a wl (.lst []) a = _ := same_new hwl0 _ _ h1
          refine ⟨_, rfl, a, _, _, _, rfl, rfl, SqT.of h1', rfl, rfl, _, rfl, ?_⟩
          refine iten (ne_s (by decide +kernel)) ?_
          obtain ⟨H4, eH4⟩ : ∃ H4, H4 = upd H3a wl (.lst []) := ⟨_, rfl⟩
          have s4 : Same H3' H4 := by rw [eH4]; exact sw
          have hwl : H4 wl = some (.lst (nm.map V.str)) := by rw [eH4]; exact hw
          change Ends.nx _ _ (upd H3a wl (.lst []))
          rw [← eH4]
          have hs4 : Same H H4 := Same.trans hs s4
          have hd4 := s4 _ _ hd
          have hq4 := s4 _ _ hq2
          refine ⟨_, rfl, wl, rfl, ⟨_, SqL.of hwl⟩, for_it walk_list (fun k2 σ H' => ∃ (v7 : Option V) (S2 : List Str), σ = [some (.ref p), some (.ref r), some (.ref d), v3, some (.str z), some (.ref a), some (.ref wl), v7, v8] ∧ Same H H' ∧ H' d = some (.dK (seenV S2)) ∧ H' lq = some (.lst ((nms L).map V.str)) ∧ H' wl = some (.lst (nm.map V.str)) ∧ S2.Nodup ∧ (∀ y, y ∈ S2 ↔ y ∈ S ∨ (z ∈ S ∧ y ∈ nm.take k2)))
            ⟨v7, S, rfl, hs4, hd4, hq4, hwl, nd, fun y => ⟨.inl, fun q => q.elim id fun q => by rw [List.take_zero] at q; exact absurd q.2 (fun z => nomatch z)⟩⟩ (fun _ _ _ _ ⟨_, _, _, _, _, _, q, _⟩ => SqL.of q) ?_ ?_⟩
          · rintro k2 x2 σ H5 H6 hk2 ⟨v7, S2, rfl, hs5, hd5, hq5, hw5, nd2, me2⟩ ⟨rfl, hx2⟩
            obtain ⟨y, hy, rfl⟩ := map_get hx2
            have ym : y ∈ nm := List.mem_of_getElem? hy
            refine ⟨_, rfl, _, rfl, d, _, rfl, DGet.k (k := Sum.inr z) hd5, _, rfl, ?_⟩
            rw [seen_has]
            have zS : z ∈ S2 ↔ z ∈ S := by
              rw [me2]
              exact ⟨fun q => q.elim id fun q => q.1, .inl⟩
            by_cases cz : z ∈ S2
            · refine itep (decide_eq_true cz) ?_
              have si2 : ∀ y ∈ S2, y ∈ nms L := fun y hy => ((me2 y).mp hy).elim (si y) fun q => ok.kb.mem hmem _ (by rw [← enm]; exact List.mem_of_mem_take q.2)
              have l2 := nd_sub_len nd2 si2
              refine ⟨_, rfl, _, rfl, d, _, rfl, DPut.k (k := Sum.inr y) hd5 (by rw [seen_len]; exact lt_line (by omega)), ?_⟩
              rw [addS_put]
              refine ⟨_, addS S2 y, rfl, Same.mut hs5 hd0, upd_same, nodk hd5 hq5 (fun _ z => nomatch z), nodk hd5 hw5 (fun _ z => nomatch z), addS_nd nd2 y, fun u => ?_⟩
              rw [mem_addS, me2, take_snoc hy, List.mem_append, List.mem_singleton]
              constructor
              · rintro ((q | q) | q)
                · exact .inl q
                · exact .inr ⟨q.1, .inl q.2⟩
                · exact .inr ⟨zS.mp cz, .inr q⟩
              · rintro (q | ⟨q1, q2 | q2⟩)
                · exact .inl (.inl q)
                · exact .inl (.inr ⟨q1, q2⟩)
                · exact .inr q2
            · refine iten (by simp [cz]) ?_
              refine ⟨_, S2, rfl, hs5, hd5, hq5, hw5, nd2, fun u => ?_⟩
              rw [me2]
              have nz : ¬ z ∈ S := fun q => cz (zS.mpr q)
              exact ⟨fun q => q.elim .inl fun q => absurd q.1 nz, fun q => q.elim .inl fun q => absurd q.1 nz⟩
          · rintro σ H5 ⟨v7, S2, rfl, hs5, hd5, hq5, hw5, nd2, me2⟩
            rw [List.length_map, List.take_length] at me2
            have zk : ∀ {n : Nat} {z' : Str} {t' : Thing}, L.length - 1 - i ≤ n → L[n]? = some (z', t') → z' ∉ nm := fun hn hz' hm => by
              have := kid_ahead ok hzt (by rw [← enm]; exact hm) hz'
              omega
            refine ⟨_, _, _, _, _, _, S2, rfl, hs5, hd5, hq5, nd2, fun y hy => ?_, fun y hy => ?_, fun y hy => (me2 y).mpr (.inl (rts y hy)), fun n z' t' c hn hz' hzs hc => ?_⟩
            · exact ((me2 y).mp hy).elim (si y) fun q => ok.kb.mem hmem _ (by rw [← enm]; exact q.2)
            · exact ((me2 y).mp hy).elim (rc y) fun q => .kid (rc z q.1) hmem (by rw [← enm]; exact q.2)
            · have zS : z' ∈ S := ((me2 z').mp hzs).elim id fun q => absurd q.2 (zk (by omega) hz')
              by_cases cn : n = L.length - 1 - i
              · rw [cn, hzt] at hz'
                cases hz'
                exact (me2 c).mpr (.inr ⟨zS, by rw [enm]; exact hc⟩)
              · exact (me2 c).mpr (.inl (cl n z' t' c (by omega) hz' zS hc))
        | tree rows =>
          obtain ⟨q, as, h1, h2, h3⟩ := hta
          refine ⟨_, rfl, a, _, _, _, rfl, rfl, SqT.of h1, rfl, rfl, _, rfl, ?_⟩
          refine iten (ne_s (by decide +kernel)) ?_
          refine ⟨_, rfl, a, _, _, _, rfl, rfl, SqT.of h1, rfl, rfl, _, rfl, ?_⟩
          refine itep (decide_eq_true rfl) ?_
          refine ⟨_, rfl, a, _, _, _, rfl, rfl, SqT.of h1, rfl, q, rfl, ⟨_, SqT.of h2⟩, fun wl hD => lc_it walk_tup (fun i H' => Same H3a H' ∧ H' wl = some (.lst ((rows.take i).map fun r => V.str r.2))) ⟨same_new hD, upd_same⟩ (fun _ _ _ p => SqT.of (p.1 _ _ h2)) ?_ ?_⟩
          · rintro i x H1 H2 hi ⟨hs, hd⟩ ⟨rfl, hx⟩
            obtain ⟨b, hb, rfl⟩ := map_get hx
            obtain ⟨r, hr1, hr2⟩ := paired_get h3 hb
            refine ⟨rfl, ?_⟩
            have ol : rows.length ≤ 100 := tok.2.2
            refine ⟨_, rfl, b, _, _, _, rfl, rfl, SqT.of (hs _ _ hr2), rfl, _, hd, ?_, Same.mut hs hD, ?_⟩
            · rw [List.length_map, List.length_take]; exact lt_line (by omega)
            · rw [upd_same, take_snoc hr1, List.map_append]; rfl
          · rintro H4 ⟨hsD, hdD⟩
            have e : (as.map V.ref).length = rows.length := by rw [List.length_map]; exact Paired.length h3
            have hwl : H4 wl = some (.lst (nm.map V.str)) := by
              rw [hdD, e, List.take_length, enm]
              simp [Thing.names]
            refine ⟨_, rfl, a, _, _, _, rfl, rfl, SqT.of (hsD _ _ h1), rfl, rfl, _, rfl, ?_⟩
            refine iten (ne_s (by decide +kernel)) ?_
            have s4 : Same H3' H4 := Same.trans s3a hsD
            have hs4 : Same H H4 := Same.trans hs s4
            have hd4 := s4 _ _ hd
            have hq4 := s4 _ _ hq2
            refine ⟨_, rfl, wl, rfl, ⟨_, SqL.of hwl⟩, for_it walk_list (fun k2 σ H' => ∃ (v7 : Option V) (S2 : List Str), σ = [some (.ref p), some (.ref r), some (.ref d), v3, some (.str z), some (.ref a), some (.ref wl), v7, v8] ∧ Same H H' ∧ H' d = some (.dK (seenV S2)) ∧ H' lq = some (.lst ((nms L).map V.str)) ∧ H' wl = some (.lst (nm.map V.str)) ∧ S2.Nodup ∧ (∀ y, y ∈ S2 ↔ y ∈ S ∨ (z ∈ S ∧ y ∈ nm.take k2)))
              ⟨v7, S, rfl, hs4, hd4, hq4, hwl, nd, fun y => ⟨.inl, fun q => q.elim id fun q => by rw [List.take_zero] at q; exact absurd q.2 (fun z => nomatch z)⟩⟩ (fun _ _ _ _ ⟨_, _, _, _, _, _, q, _⟩ => SqL.of q) ?_ ?_⟩
            · rintro k2 x2 σ H5 H6 hk2 ⟨v7, S2, rfl, hs5, hd5, hq5, hw5, nd2, me2⟩ ⟨rfl, hx2⟩
              obtain ⟨y, hy, rfl⟩ := map_get hx2
              have ym : y ∈ nm := List.mem_of_getElem? hy
              refine ⟨_, rfl, _, rfl, d, _, rfl, DGet.k (k := Sum.inr z) hd5, _, rfl, ?_⟩
              rw [seen_has]
              have zS : z ∈ S2 ↔ z ∈ S := by
                rw [me2]
                exact ⟨fun q => q.elim id fun q => q.1, .inl⟩
              by_cases cz : z ∈ S2
              · refine itep (decide_eq_true cz) ?_
                have si2 : ∀ y ∈ S2, y ∈ nms L := fun y hy => ((me2 y).mp hy).elim (si y) fun q => ok.kb.mem hmem _ (by rw [← enm]; exact List.mem_of_mem_take q.2)
                have l2 := nd_sub_len nd2 si2
                refine ⟨_, rfl, _, rfl, d, _, rfl, DPut.k (k := Sum.inr y) hd5 (by rw [seen_len]; exact lt_line (by omega)), ?_⟩
                rw [addS_put]
                refine ⟨_, addS S2 y, rfl, Same.mut hs5 hd0, upd_same, nodk hd5 hq5 (fun _ z => nomatch z), nodk hd5 hw5 (fun _ z => nomatch z), addS_nd nd2 y, fun u => ?_⟩
                rw [mem_addS, me2, take_snoc hy, List.mem_append, List.mem_singleton]
                constructor
                · rintro ((q | q) | q)
                  · exact .inl q
                  · exact .inr ⟨q.1, .inl q.2⟩
                  · exact .inr ⟨zS.mp cz, .inr q⟩
                · rintro (q | ⟨q1, q2 | q2⟩)
                  · exact .inl (.inl q)
                  · exact .inl (.inr ⟨q1, q2⟩)
                  · exact .inr q2
              · refine iten (by simp [cz]) ?_
                refine ⟨_, S2, rfl, hs5, hd5, hq5, hw5, nd2, fun u => ?_⟩
                rw [me2]
                have nz : ¬ z ∈ S := fun q => cz (zS.mpr q)
                exact ⟨fun q => q.elim .inl fun q => absurd q.1 nz, fun q => q.elim .inl fun q => absurd q.1 nz⟩
            · rintro σ H5 ⟨v7, S2, rfl, hs5, hd5, hq5, hw5, nd2, me2⟩
              rw [List.length_map, List.take_length] at me2
              have zk : ∀ {n : Nat} {z' : Str} {t' : Thing}, L.length - 1 - i ≤ n → L[n]? = some (z', t') → z' ∉ nm := fun hn hz' hm => by
                have := kid_ahead ok hzt (by rw [← enm]; exact hm) hz'
                omega
              refine ⟨_, _, _, _, _, _, S2, rfl, hs5, hd5, hq5, nd2, fun y hy => ?_, fun y hy => ?_, fun y hy => (me2 y).mpr (.inl (rts y hy)), fun n z' t' c hn hz' hzs hc => ?_⟩
              · exact ((me2 y).mp hy).elim (si y) fun q => ok.kb.mem hmem _ (by rw [← enm]; exact q.2)
              · exact ((me2 y).mp hy).elim (rc y) fun q => .kid (rc z q.1) hmem (by rw [← enm]; exact q.2)
              · have zS : z' ∈ S := ((me2 z').mp hzs).elim id fun q => absurd q.2 (zk (by omega) hz')
                by_cases cn : n = L.length - 1 - i
                · rw [cn, hzt] at hz'
                  cases hz'
                  exact (me2 c).mpr (.inr ⟨zS, by rw [enm]; exact hc⟩)
                · exact (me2 c).mpr (.inl (cl n z' t' c (by omega) hz' zS hc))
        | note tr ps wn =>
          obtain ⟨q, h1, h2⟩ := hta
          have op : ps.length ≤ 1 := tok.2.2.1
          refine ⟨_, rfl, a, _, _, _, rfl, rfl, SqT.of h1, rfl, rfl, _, rfl, ?_⟩
          refine iten (ne_s (by decide +kernel)) ?_
          refine ⟨_, rfl, a, _, _, _, rfl, rfl, SqT.of h1, rfl, rfl, _, rfl, ?_⟩
          refine iten (ne_s (by decide +kernel)) ?_
          refine ⟨_, rfl, a, _, _, _, rfl, rfl, SqT.of h1, rfl, by show 1 ≤ sizeLine; decide, fun p1 hp1 => ?_⟩
          have s1 : Same H3a (upd H3a p1 (.lst [V.str tr])) := same_new hp1
          refine ⟨_, rfl, a, _, _, _, rfl, rfl, SqT.of (s1 _ _ h1), rfl, rfl, _, rfl, ?_⟩
          refine itep (decide_eq_true rfl) ?_
          refine ⟨_, rfl, _, rfl, a, _, _, _, rfl, rfl, SqT.of (s1 _ _ h1), rfl, q, _, rfl, .inr (SqT.of (s1 _ _ h2)), fun l hl => ?_⟩
          have s2 := Same.new (o := .lst (ps.map V.str)) s1 hl
          have npl : p1 ≠ l := ne_of_none upd_same hl
          refine ⟨p1, l, _, _, rfl, rfl, by rw [upd_ne npl]; exact upd_same, upd_same, le_line (by rw [List.length_map]; show 1 + _ ≤ _; omega), fun wl hwl0 => ?_⟩
          obtain ⟨H4, eH4⟩ : ∃ H4, H4 = upd (upd (upd H3a p1 (.lst [V.str tr])) l (.lst (ps.map V.str))) wl (.lst ([V.str tr] ++ ps.map V.str)) := ⟨_, rfl⟩
          have s4 : Same H3' H4 := by rw [eH4]; exact Same.trans s3a (Same.new s2 hwl0)
          have hwl : H4 wl = some (.lst (nm.map V.str)) := by rw [eH4, upd_same, enm]; rfl
          change Ends.nx _ _ (upd (upd (upd H3a p1 (.lst [V.str tr])) l (.lst (ps.map V.str))) wl (.lst ([V.str tr] ++ ps.map V.str)))
          rw [← eH4]
          have hs4 : Same H H4 := Same.trans hs s4
          have hd4 := s4 _ _ hd
          have hq4 := s4 _ _ hq2
          refine ⟨_, rfl, wl, rfl, ⟨_, SqL.of hwl⟩, for_it walk_list (fun k2 σ H' => ∃ (v7 : Option V) (S2 : List Str), σ = [some (.ref p), some (.ref r), some (.ref d), v3, some (.str z), some (.ref a), some (.ref wl), v7, v8] ∧ Same H H' ∧ H' d = some (.dK (seenV S2)) ∧ H' lq = some (.lst ((nms L).map V.str)) ∧ H' wl = some (.lst (nm.map V.str)) ∧ S2.Nodup ∧ (∀ y, y ∈ S2 ↔ y ∈ S ∨ (z ∈ S ∧ y ∈ nm.take k2)))
            ⟨v7, S, rfl, hs4, hd4, hq4, hwl, nd, fun y => ⟨.inl, fun q => q.elim id fun q => by rw [List.take_zero] at q; exact absurd q.2 (fun z => nomatch z)⟩⟩ (fun _ _ _ _ ⟨_, _, _, _, _, _, q, _⟩ => SqL.of q) ?_ ?_⟩
          · rintro k2 x2 σ H5 H6 hk2 ⟨v7, S2, rfl, hs5, hd5, hq5, hw5, nd2, me2⟩ ⟨rfl, hx2⟩
            obtain ⟨y, hy, rfl⟩ := map_get hx2
            have ym : y ∈ nm := List.mem_of_getElem? hy
            refine ⟨_, rfl, _, rfl, d, _, rfl, DGet.k (k := Sum.inr z) hd5, _, rfl, ?_⟩
            rw [seen_has]
            have zS : z ∈ S2 ↔ z ∈ S := by
              rw [me2]
              exact ⟨fun q => q.elim id fun q => q.1, .inl⟩
            by_cases cz : z ∈ S2
            · refine itep (decide_eq_true cz) ?_
              have si2 : ∀ y ∈ S2, y ∈ nms L := fun y hy => ((me2 y).mp hy).elim (si y) fun q => ok.kb.mem hmem _ (by rw [← enm]; exact List.mem_of_mem_take q.2)
              have l2 := nd_sub_len nd2 si2
              refine ⟨_, rfl, _, rfl, d, _, rfl, DPut.k (k := Sum.inr y) hd5 (by rw [seen_len]; exact lt_line (by omega)), ?_⟩
              rw [addS_put]
              refine ⟨_, addS S2 y, rfl, Same.mut hs5 hd0, upd_same, nodk hd5 hq5 (fun _ z => nomatch z), nodk hd5 hw5 (fun _ z => nomatch z), addS_nd nd2 y, fun u => ?_⟩
              rw [mem_addS, me2, take_snoc hy, List.mem_append, List.mem_singleton]
              constructor
              · rintro ((q | q) | q)
                · exact .inl q
                · exact .inr ⟨q.1, .inl q.2⟩
                · exact .inr ⟨zS.mp cz, .inr q⟩
              · rintro (q | ⟨q1, q2 | q2⟩)
                · exact .inl (.inl q)
                · exact .inl (.inr ⟨q1, q2⟩)
                · exact .inr q2
            · refine iten (by simp [cz]) ?_
              refine ⟨_, S2, rfl, hs5, hd5, hq5, hw5, nd2, fun u => ?_⟩
              rw [me2]
              have nz : ¬ z ∈ S := fun q => cz (zS.mpr q)
              exact ⟨fun q => q.elim .inl fun q => absurd q.1 nz, fun q => q.elim .inl fun q => absurd q.1 nz⟩
          · rintro σ H5 ⟨v7, S2, rfl, hs5, hd5, hq5, hw5, nd2, me2⟩
            rw [List.length_map, List.take_length] at me2
            have zk : ∀ {n : Nat} {z' : Str} {t' : Thing}, L.length - 1 - i ≤ n → L[n]? = some (z', t') → z' ∉ nm := fun hn hz' hm => by
              have := kid_ahead ok hzt (by rw [← enm]; exact hm) hz'
              omega
            refine ⟨_, _, _, _, _, _, S2, rfl, hs5, hd5, hq5, nd2, fun y hy => ?_, fun y hy => ?_, fun y hy => (me2 y).mpr (.inl (rts y hy)), fun n z' t' c hn hz' hzs hc => ?_⟩
            · exact ((me2 y).mp hy).elim (si y) fun q => ok.kb.mem hmem _ (by rw [← enm]; exact q.2)
            · exact ((me2 y).mp hy).elim (rc y) fun q => .kid (rc z q.1) hmem (by rw [← enm]; exact q.2)
            · have zS : z' ∈ S := ((me2 z').mp hzs).elim id fun q => absurd q.2 (zk (by omega) hz')
              by_cases cn : n = L.length - 1 - i
              · rw [cn, hzt] at hz'
                cases hz'
                exact (me2 c).mpr (.inr ⟨zS, by rw [enm]; exact hc⟩)
              · exact (me2 c).mpr (.inl (cl n z' t' c (by omega) hz' zS hc))
      · rintro σ H3 ⟨v3, v4, v5, v6, v7, v8, S, rfl, hs, hd, hq2, nd, si, rc, rts, cl⟩
        have e1 : ((nms L).map V.str).length = L.length := by unfold nms; rw [List.length_map, List.length_map]
        rw [e1] at cl
        have full : ∀ z, Reach L roots z → z ∈ S := by
          intro z hz
          induction hz with
          | root h => exact rts _ h
          | kid h m hc ih =>
            obtain ⟨n, hn⟩ := List.mem_iff_getElem?.mp m
            exact cl n _ _ _ (by omega) hn ih hc
        have same_names : (nms L).filter (fun z => decide (z ∈ S)) = nms (sub L roots) := nms_sub L roots _ fun n _ => by
          rw [decide_eq_true_eq]
          exact ⟨rc n, full n⟩
        refine ⟨_, rfl, p, dx, fs, rfl, hs _ _ i1, i4, p, L, rfl, sb.mono hs, fun q H4 hq s4 hq4 => ?_⟩
        have s13 := Same.trans hs s4
        refine ⟨q, rfl, ⟨_, SqL.of hq4⟩, fun D hD => lc_it walk_list (fun i H' => Same H4 H' ∧ H' D = some (.lst ((((nms L).take i).filter (fun z => decide (z ∈ S))).map V.str))) ⟨same_new hD, upd_same⟩ (fun _ _ _ e => SqL.of (e.1 _ _ hq4)) ?_ ?_⟩
        · rintro i x H5 H6 hi ⟨h5, hd5⟩ ⟨rfl, hx⟩
          obtain ⟨z, hz, rfl⟩ := map_get hx
          refine ⟨rfl, _, rfl, _, rfl, d, _, rfl, DGet.k (k := Sum.inr z) (h5 _ _ (s4 _ _ hd)), _, rfl, ?_⟩
          rw [seen_has]
          rw [take_snoc hz, List.filter_append]
          have ii := (List.getElem?_eq_some_iff.mp hz).1
          by_cases c : z ∈ S
          · refine itep (decide_eq_true c) ?_
            refine ⟨_, rfl, _, hd5, ?_, Same.mut h5 hD, ?_⟩
            · rw [List.length_map]
              refine lt_line (Nat.lt_of_le_of_lt (List.length_filter_le _ _) ?_)
              rw [List.length_take]; omega
            · rw [upd_same, List.map_append, List.filter_cons, if_pos (decide_eq_true c)]; rfl
          · refine iten (by simp [c]) ?_
            refine ⟨h5, ?_⟩
            rw [hd5, List.filter_cons, if_neg (by simp [c])]; simp
        · rintro H5 ⟨h5, hd5⟩
          rw [List.length_map, List.take_length, same_names] at hd5
          exact k D H5 (L2.Same.free s13 hD) (Same.trans s13 h5) hd5
end
end An

namespace An
open PySem PySem.Spec L2
theorem dV_mem {β : Type} (f : β → V) {l : List (Str × β)} (nd : (l.map (·.1)).Nodup) {n : Str} {b : β} (h : (n, b) ∈ l) : valV (dV f l) (Sum.inr n) = some (f b) := by
  obtain ⟨i, hi⟩ := List.mem_iff_getElem?.mp h
  exact dV_at f nd hi
theorem dput_new {β : Type} {l : List (Str × β)} {n : Str} {b : β} (h : n ∉ l.map (·.1)) : dput l n b = l ++ [(n, b)] := by unfold dput; rw [if_neg h]
theorem dput_last {β : Type} {l : List (Str × β)} {n : Str} {a b : β} (h : n ∉ l.map (·.1)) : dput (l ++ [(n, a)]) n b = l ++ [(n, b)] := by
  have hin : n ∈ (l ++ [(n, a)]).map (·.1) := by rw [List.map_append]; exact List.mem_append_right _ (List.mem_singleton.mpr rfl)
  unfold dput
  rw [if_pos hin, List.map_append]
  congr 1
  · have : l.map (fun e => if e.1 = n then (e.1, b) else e) = l.map id := List.map_congr_left fun e he => by
      rw [if_neg (fun z => h (List.mem_map.mpr ⟨e, he, z⟩))]; rfl
    rw [this, List.map_id]
  · show [if n = n then (n, b) else (n, a)] = _
    rw [if_pos rfl]
def nI (n : Nat) : V := .int ((n : Nat) : Int)
def stL (ps : List PEnt) : List (Str × Nat) := ps.map fun e => (e.name, e.steps)
theorem stL_keys (ps : List PEnt) : (stL ps).map (·.1) = ps.map (·.name) := by unfold stL; rw [List.map_map]; rfl
theorem stL_snoc (ps : List PEnt) (e : PEnt) : stL (ps ++ [e]) = stL ps ++ [(e.name, e.steps)] := by unfold stL; rw [List.map_append]; rfl
/-- the least so far -/
def LAt (H : Hp) (ps : List PEnt) : Option (PEnt × List Span) → Option V → Prop
  | none, v => v = some .non
  | some (b, sp), v => b ∈ ps ∧ ∃ u, v = some (.ref u) ∧ H u = some (.tup [.int ((costOf sp : Nat) : Int), .str b.name])
theorem LAt.mono {H H' : Hp} (s : Tups H H') {ps : List PEnt} {acc : Option (PEnt × List Span)} {v : Option V} (h : LAt H ps acc v) : LAt H' ps acc v := by
  cases acc with
  | none => exact h
  | some x => obtain ⟨b, sp⟩ := x; obtain ⟨h0, u, h1, h2⟩ := h; exact ⟨h0, u, h1, s _ _ h2⟩
section
variable {P : Program} {w : World} {K : PySem.W.Frag} {mg : Str → Option Value} {base : Heap}
/-! ### plan -/
def PlanW (H : Hp) (a fd : Addr) (M : Cont) : Prop := H a = some (.tup [.ref fd, .int ((wtOf (planAll M) : Nat) : Int)]) ∧ H fd = some (.dK (dV nI (stL (planAll M))))
def PlanAt (H : Hp) (a : Addr) (M : Cont) : Prop := ∃ fd, PlanW H a fd M
theorem PlanW.mono {H H' : Hp} (s : Same H H') {a fd : Addr} {M : Cont} (h : PlanW H a fd M) : PlanW H' a fd M := ⟨s _ _ h.1, s _ _ h.2⟩
theorem PlanAt.mono {H H' : Hp} (s : Same H H') {a : Addr} {M : Cont} (h : PlanAt H a M) : PlanAt H' a M := let ⟨fd, h1⟩ := h; ⟨fd, h1.mono s⟩
def spPlan (P : Program) (w : World) (K : PySem.W.Frag) : Sp := fun vs H Q _ => ∃ (p r : Addr) (L M : Cont), vs = [.ref p, .ref r] ∧ StB P w (He.ga K "Pack") (He.ga K "Shelf") 1 false H p L ∧ H r = some (.lst ((nms M).map V.str)) ∧ (∀ e ∈ M, e ∈ L) ∧ StOk M ∧
  ∀ a fd H', H fd = none → Same H H' → PlanW H' a fd M → Q (.ref a) H'
theorem sc_plan : FnScope ["_law_shelf", "_law_names", "_law_found", "_law_weight", "_law_ahead", "_law_name", "_law_thing", "_law_least", "_law_other", "_law_cost"] ["_law_shelf", "_law_names"] (defScope s_plan) := ⟨rfl, rfl, rfl, by decide +kernel, rfl, by decide +kernel, by decide +kernel⟩
theorem ok_plan (T : Tx K mg) : Gf P w K mg base CX0 15 (He.ga K "_law_plan") ["_law_shelf", "_law_names"] (spPlan P w K) := by
  have W : Api P w K mg base 1 14 false := api1 T false
  have G_spans_of : Gf P w K mg base CX0 3 _ _ spSpans := ok_spans_of T
  have G_cost_of : Gf P w K mg base CX0 1 _ _ spCost := ok_cost_of T
  refine gf0_of T.d_plan sc_plan (fun _ _ _ _ _ _ us hl => match us, hl with | [_, _], _ => rfl) (fun vs H Q E h => ?_) (fun cdv A outer s H vs Q E hr h => ?_)
  · obtain ⟨p, r, L, M, rfl, _⟩ := h; rfl
  · obtain ⟨p, r, L, M, rfl, sb, hr0, hML, ok, k⟩ := h
    refine ⟨_, pss_cons (ps_set (i := 2) sc_plan.nd rfl (Or.inl rfl) pe_dnewK)
      (pss_cons (ps_set (i := 3) sc_plan.nd rfl (Or.inl rfl) pe_int)
      (pss_cons (ps_set (i := 4) sc_plan.nd rfl (Or.inl rfl) (pe_lst pa_nil))
      (pss_cons (ps_for PassesOwn.never rfl (pi_list (pv 1)) (pg_name (i := 5) sc_plan.nd rfl (Or.inl rfl))
        (pss_cons (ps_set (i := 6) sc_plan.nd rfl (Or.inl rfl) (pe_mt W.cl W.m_thing W.G_thing (hr.mono (by decide)) passL (pv 0) (pa_cons (pv 5) pa_nil)))
        (pss_cons (ps_dput (hu_of hr) (pv 2) (pv 5) pe_int rfl)
        (pss_one (ps_if (pt_cmpR op_eq (pe_ix (r := rIxT K) ix_tup (pv 6) pe_int (fun _ _ => rfl)) pe_str (nomark _))
          (pss_cons (ps_set (i := 7) sc_plan.nd rfl (Or.inl rfl) pe_non)
          (pss_cons (ps_for PassesOwn.never rfl (pi_list (pv 4)) (pg_name (i := 8) sc_plan.nd rfl (Or.inl rfl))
            (pss_cons (ps_set (i := 9) sc_plan.nd rfl (Or.inl rfl) (pe_fn G_cost_of (hr.mono (by decide)) T.g_cost_of pass0 (pa_cons (pe_fn G_spans_of (hr.mono (by decide)) T.g_spans_of pass0 (pa_cons (pe_ix (r := rIxT K) ix_tup (pe_mt W.cl W.m_thing W.G_thing (hr.mono (by decide)) passL (pv 0) (pa_cons (pv 8) pa_nil)) pe_int (fun _ _ => rfl)) (pa_cons (pe_ix (r := rIxT K) ix_tup (pv 6) pe_int (fun _ _ => rfl)) pa_nil))) pa_nil)))
            (pss_one (ps_if (PW.pt (pw_and (pt_cmpR op_lt (pe_dget (hu_of hr) (pv 2) (pv 8) (fun _ _ => rfl)) pe_int (nomark _)) (pw_and1 (PW.pt (pw_or (pt_cmp (pc_isN (pv 7))) (pw_or1 (pt_cmpR op_le (pv 9) (pe_ix (r := rIxT K) ix_tup (pv 7) pe_int (fun _ _ => rfl)) (nomark _))))))))
              (pss_one (ps_set (i := 7) sc_plan.nd rfl (Or.inl rfl) (pe_tup (pa_cons (pv 9) (pa_cons (pv 8) pa_nil)))))
              (pss_nil)))))
          (pss_cons (ps_if (PW.pt (pw_and (pt_cmp (pc_notN (pv 7))) (pw_and1 (pt_cmpR op_lt (pe_ix (r := rIxT K) ix_tup (pv 7) pe_int (fun _ _ => rfl)) (pe_callB (r := rLen K) call_len rfl T.n_len (by decide +kernel) (pa_cons (pe_ix (r := rIxT K) ix_tup (pv 6) pe_int (fun _ _ => rfl)) pa_nil)) (nomark _)))))
            (pss_cons (ps_dput (hu_of hr) (pv 2) (pv 5) (pe_op op_add (pe_dget (hu_of hr) (pv 2) (pe_ix (r := rIxT K) ix_tup (pv 7) pe_int (fun _ _ => rfl)) (fun _ _ => rfl)) pe_int) rfl)
            (pss_one (ps_set (i := 3) sc_plan.nd rfl (Or.inl rfl) (pe_op op_add (pv 3) (pe_ix (r := rIxT K) ix_tup (pv 7) pe_int (fun _ _ => rfl))))))
            (pss_one (ps_set (i := 3) sc_plan.nd rfl (Or.inl rfl) (pe_op op_add (pv 3) (pe_callB (r := rLen K) call_len rfl T.n_len (by decide +kernel) (pa_cons (pe_ix (r := rIxT K) ix_tup (pv 6) pe_int (fun _ _ => rfl)) pa_nil))))))
          (pss_one (ps_expr (pe_bm PySem.F.plainAttrs_list PySem.F.slot_list_append PySem.F.type_list_append mt_append (pv 4) (pa_cons (pv 5) pa_nil)))))))
          (pss_nil))))))
      (pss_one (ps_ret (pe_tup (pa_cons (pv 2) (pa_cons (pv 3) pa_nil)))))))), ?_⟩
    obtain ⟨dx, fs, i1, i2, i3, i4⟩ := st_ins sb
    refine fun fd hfd => ?_
    have s0 := same_new (o := .dK []) hfd
    refine ⟨Nat.zero_le _, fun ah hah => ?_⟩
    have s1 := Same.new (o := .lst []) s0 hah
    have hah0 : H ah = none := L2.Same.free s0 hah
    have nfa : fd ≠ ah := ne_of_none upd_same hah
    have e1 : ((nms M).map V.str).length = M.length := by unfold nms; rw [List.length_map, List.length_map]
    refine ⟨_, rfl, r, rfl, ⟨_, SqL.of (s1 _ _ hr0)⟩, for_it walk_list (fun i σ H' => ∃ (v5 v6 v7 v8 v9 : Option V), σ = [some (.ref p), some (.ref r), some (.ref fd), some (.int ((wtOf (planAll (M.take i)) : Nat) : Int)), some (.ref ah), v5, v6, v7, v8, v9] ∧ Same H H' ∧ H' fd = some (.dK (dV nI (stL (planAll (M.take i))))) ∧ H' ah = some (.lst (((lvs (planAll (M.take i))).map (·.name)).map V.str)))
      ⟨none, none, none, none, none, rfl, s1, by rw [upd_ne nfa]; exact upd_same, upd_same⟩ (fun _ _ _ _ ⟨_, _, _, _, _, _, q, _⟩ => SqL.of (q _ _ hr0)) ?_ ?_⟩
    · rintro i x σ H1 H2 hi ⟨v5, v6, v7, v8, v9, rfl, hs, hf, ha⟩ ⟨rfl, hx⟩
      obtain ⟨z, hz, rfl⟩ := map_get hx
      obtain ⟨⟨y, t⟩, hzt, ez⟩ := map_get hz
      subst ez
      have hmem : (z, t) ∈ M := List.mem_of_getElem? hzt
      have tok := ok.th _ hmem
      have nn := new_name ok.nd hzt
      have pl : PkPlan (planAll (M.take i)) := planAll_plan (by rw [nms_take]; exact List.Nodup.sublist (List.take_sublist _ _) ok.nd) fun e he => ok.th e (List.mem_of_mem_take he)
      have psL : ∀ e ∈ planAll (M.take i), (e.name, e.thing) ∈ L := fun e he => by
        have h1 : (e.name, e.thing) ∈ M.take i := by rw [← planAll_map (M.take i)]; exact List.mem_map.mpr ⟨e, he, rfl⟩
        exact hML _ (List.mem_of_mem_take h1)
      have ls : (planAll (M.take i)).length ≤ 1000 := by rw [planAll_len, List.length_take]; have := ok.sz; omega
      have esn : planAll (M.take (i + 1)) = planAll (M.take i) ++ [planOne (planAll (M.take i)) (z, t)] := by rw [take_snoc hzt, planAll_snoc]
      rw [esn, wtOf_snoc, stL_snoc]
      obtain ⟨ps, eps⟩ : ∃ ps, ps = planAll (M.take i) := ⟨_, rfl⟩
      rw [← eps] at hf ha nn pl ls psL ⊢
      have nk : z ∉ (stL ps).map (·.1) := by rw [stL_keys]; exact nn
      refine ⟨_, rfl, p, dx, fs, rfl, hs _ _ i1, i3, _, rfl, p, _, L, rfl, sb.mono hs, trivial, .inl ⟨z, t, hML _ hmem, rfl, fun a H3 s3 ta => ?_⟩⟩
      have hs3 := Same.trans hs s3
      have hf3 := s3 _ _ hf
      refine ⟨_, rfl, _, rfl, fd, _, rfl, DPut.k (k := Sum.inr z) hf3 (dV_len' nI (stL ps) (n := 1000) (by unfold stL; rw [List.length_map]; exact ls) (by decide)), ?_⟩
      rw [show putK (dV nI (stL ps)) (Sum.inr z) (V.int 0) = dV nI (stL ps ++ [(z, 0)]) by rw [← dput_new nk]; exact dV_put nI (stL ps) z 0]
      obtain ⟨H4, eH4⟩ : ∃ H4, H4 = upd H3 fd (.dK (dV nI (stL ps ++ [(z, 0)]))) := ⟨_, rfl⟩
      have hs4 : Same H H4 := by rw [eH4]; exact Same.mut hs3 hfd
      have hf4 : H4 fd = some (.dK (dV nI (stL ps ++ [(z, 0)]))) := by rw [eH4]; exact upd_same
      have ha4 : H4 ah = some (.lst (((lvs ps).map (·.name)).map V.str)) := by rw [eH4]; exact nodk hf3 (s3 _ _ ha) (fun _ z => nomatch z)
      have t4 : Tups H3 H4 := by rw [eH4]; exact tups_dk hf3
      have ta4 := ta.mono t4
      change Ends.nx _ _ (upd H3 fd (.dK (dV nI (stL ps ++ [(z, 0)]))))
      rw [← eH4]
      have ndk : ((stL ps ++ [(z, (0 : Nat))]).map (fun e : Str × Nat => e.1)).Nodup := by
        rw [List.map_append, stL_keys]
        exact List.nodup_append.mpr ⟨pl.nd, List.nodup_cons.mpr ⟨fun h => (nomatch h), List.nodup_nil⟩, fun x hx y hy e => nn (by rw [List.mem_singleton.mp hy] at e; rw [← show x = z from e]; exact hx)⟩
      have getS : ∀ e ∈ ps, valV (dV nI (stL ps ++ [(z, 0)])) (Sum.inr e.name) = some (nI e.steps) := fun e he => dV_mem nI ndk (List.mem_append_left _ (List.mem_map.mpr ⟨e, he, rfl⟩))
      cases t with
      | leaf new =>
        obtain ⟨qn, t1, t2⟩ := ta4
        refine ⟨_, rfl, a, _, _, _, rfl, rfl, SqT.of t1, rfl, rfl, _, rfl, ?_⟩
        refine itep (decide_eq_true rfl) ?_
        refine ⟨_, rfl, ah, rfl, ⟨_, SqL.of ha4⟩, for_it walk_list (fun j σ H' => ∃ (v7 v8 v9 : Option V), σ = [some (.ref p), some (.ref r), some (.ref fd), some (.int ((wtOf ps : Nat) : Int)), some (.ref ah), some (.str z), some (.ref a), v7, v8, v9] ∧ Same H4 H' ∧ LAt H' ps (((lvs ps).take j).foldl (better new) none) v7)
          ⟨_, v8, v9, rfl, Same.refl _, rfl⟩ (fun _ _ _ _ ⟨_, _, _, _, q, _⟩ => SqL.of (q _ _ ha4)) ?_ ?_⟩
        · rintro j x σ H5 H6 hj ⟨v7, v8, v9, rfl, s5, la⟩ ⟨rfl, hx⟩
          obtain ⟨on, hon, rfl⟩ := map_get hx
          obtain ⟨e, he, rfl⟩ := map_get hon
          have hel : e ∈ lvs ps := List.mem_of_getElem? he
          obtain ⟨hep, hleaf⟩ := List.mem_filter.mp hel
          have eok := pl.th e hep
          rw [take_snoc he, List.foldl_append]
          obtain ⟨acc, eacc⟩ : ∃ acc, acc = ((lvs ps).take j).foldl (better new) none := ⟨_, rfl⟩
          rw [← eacc] at la ⊢
          obtain ⟨old, eold⟩ : ∃ old, e.thing = .leaf old := by
            cases q : e.thing with
            | leaf l => exact ⟨l, rfl⟩
            | tree rs => rw [q] at hleaf; cases hleaf
            | note x y z => rw [q] at hleaf; cases hleaf
          have hs6 := Same.trans hs4 s5
          refine ⟨_, rfl, p, dx, fs, rfl, hs6 _ _ i1, i3, _, rfl, p, _, L, rfl, sb.mono hs6, trivial, .inl ⟨e.name, e.thing, psL e hep, rfl, fun oa H7 s7 tb => ?_⟩⟩
          rw [eold] at tb
          obtain ⟨qo, b1, b2⟩ := tb
          have s57 := Same.trans s5 s7
          have ll := lines_le eok
          rw [eold] at ll
          refine ⟨oa, _, _, _, rfl, rfl, SqT.of b1, rfl, _, rfl, a, _, _, _, rfl, rfl, SqT.of (s57 _ _ t1), rfl, qo, qn, old, new, rfl, b2, lsm s57 t2, ll, tok.2, fun rr as2 H8 hr8 s8 hd8 hsp8 => ?_⟩
          have c1 : (spansOf old new).length ≤ 5000 := by have := spansOf_len old new; have := tok.2; have ll' : old.length ≤ 1000 := ll; omega
          have c2 : ∀ s ∈ spansOf old new, s.2.2.length ≤ 5000 := fun s hs => Nat.le_trans (spansGo_short hs) (by have := tok.2; omega)
          refine ⟨rr, as2, _, rfl, hd8, hsp8, c1, c2, fun H9 s9 => ?_⟩
          have s59 := Same.trans s57 (Same.trans s8 s9)
          have gd := DGet.k (k := Sum.inr e.name) (s59 _ _ hf4)
          rw [getS e hep] at gd
          have la9 := la.mono (tups_of (Same.trans s7 (Same.trans s8 s9)))
          refine ⟨_, rfl, _, rfl, fd, _, rfl, gd, _, _, rfl, rfl, _, rfl, ?_⟩
          have el : e.thing.lines = old := by rw [eold]; rfl
          have eb : ([e].foldl (better new) acc) = if e.steps < 4 then (match acc with
              | none => some (e, spansOf old new)
              | some (b, sp) => if costOf (spansOf old new) ≤ costOf sp then some (e, spansOf old new) else some (b, sp)) else acc := by
            show better new acc e = _
            unfold better
            rw [el]
            split
            · cases acc <;> rfl
            · rfl
          rw [eb]
          by_cases c4 : e.steps < 4
          · refine itep (decide_eq_true (by omega)) ?_
            rw [if_pos c4]
            cases acc with
            | none =>
              cases la9
              refine ⟨_, rfl, _, rfl, ?_⟩
              refine ⟨_, rfl, _, rfl, by show 2 ≤ sizeLine; decide, fun u hu => ?_⟩
              exact ⟨_, _, _, rfl, Same.new s59 hu, hep, u, rfl, upd_same⟩
            | some x =>
              obtain ⟨b, sp⟩ := x
              obtain ⟨bm, u, rfl, hu⟩ := la9
              refine ⟨_, rfl, _, rfl, ?_⟩
              refine ⟨_, rfl, _, rfl, u, _, _, _, rfl, rfl, SqT.of hu, rfl, _, _, rfl, rfl, _, rfl, ?_⟩
              dsimp only
              by_cases cc : costOf (spansOf old new) ≤ costOf sp
              · refine itep (decide_eq_true (by omega)) ?_
                rw [if_pos cc]
                refine ⟨_, rfl, _, rfl, by show 2 ≤ sizeLine; decide, fun u2 hu2 => ?_⟩
                exact ⟨_, _, _, rfl, Same.new s59 hu2, hep, u2, rfl, upd_same⟩
              · refine iten (by simp; omega) ?_
                rw [if_neg cc]
                exact ⟨_, _, _, rfl, s59, bm, u, rfl, hu⟩
          · refine iten (by simp; omega) ?_
            rw [if_neg c4]
            exact ⟨_, _, _, rfl, s59, la9⟩
        · rintro σ H5 ⟨v7, v8, v9, rfl, s5, la⟩
          have elen : (((lvs ps).map (·.name)).map V.str).length = (lvs ps).length := by rw [List.length_map, List.length_map]
          rw [elen, List.take_length] at la
          change LAt H5 ps (best new (lvs ps)) v7 at la
          have hf5 := s5 _ _ hf4
          have ha5 := s5 _ _ ha4
          have hs5 := Same.trans hs4 s5
          have lvl : (lvs ps).length ≤ 1000 := Nat.le_trans (List.length_filter_le _ _) ls
          obtain ⟨pn1, pn2⟩ := planLeaf_name ps z new
          have pone : planOne ps (z, .leaf new) = planLeaf ps z new := rfl
          rw [pone, pn1]
          have lvn : ((lvs (ps ++ [planLeaf ps z new])).map (·.name)).map V.str = ((lvs ps).map (·.name)).map V.str ++ [V.str z] := by
            rw [lvs_snoc_leaf (by rw [pn2]; rfl), List.map_append, List.map_append]
            show _ ++ [V.str (planLeaf ps z new).name] = _
            rw [pn1]
          have done : ∀ {Wv : Int} {v7 : Option V} (H6 : Hp), Same H H6 → H6 fd = some (.dK (dV nI (stL ps ++ [(z, (planLeaf ps z new).steps)]))) → H6 ah = some (.lst (((lvs ps).map (·.name)).map V.str)) → Wv = ((wtOf ps + entW (planLeaf ps z new) : Nat) : Int) →
              (((((lvs ps).map (·.name)).map V.str).length < sizeLine)) ∧ ∃ (v5 v6 v7' v8' v9' : Option V), ([some (.ref p), some (.ref r), some (.ref fd), some (.int Wv), some (.ref ah), some (.str z), some (.ref a), v7, v8, v9] : L2.St) = [some (.ref p), some (.ref r), some (.ref fd), some (.int ((wtOf ps + entW (planLeaf ps z new) : Nat) : Int)), some (.ref ah), v5, v6, v7', v8', v9'] ∧
                Same H (upd H6 ah (.lst (((lvs ps).map (·.name)).map V.str ++ [V.str z]))) ∧ upd H6 ah (.lst (((lvs ps).map (·.name)).map V.str ++ [V.str z])) fd = some (.dK (dV nI (stL ps ++ [(z, (planLeaf ps z new).steps)]))) ∧ upd H6 ah (.lst (((lvs ps).map (·.name)).map V.str ++ [V.str z])) ah = some (.lst (((lvs (ps ++ [planLeaf ps z new])).map (·.name)).map V.str)) := by
            intro Wv v7 H6 hs6 hf6 ha6 ew
            refine ⟨lt_line (by rw [List.length_map, List.length_map]; omega), _, _, _, _, _, by rw [ew], Same.mut hs6 hah0, by rw [upd_ne nfa]; exact hf6, by rw [upd_same, lvn]⟩
          cases hbest : best new (lvs ps) with
          | none =>
            rw [hbest] at la
            cases la
            have ep : planLeaf ps z new = ⟨z, .leaf new, 0, none⟩ := by unfold planLeaf; rw [hbest]
            obtain ⟨d1, d2⟩ := done (Wv := ((wtOf ps : Nat) : Int) + (((new.map V.str).length : Nat) : Int)) (v7 := some .non) H5 hs5 (by rw [ep]; exact hf5) ha5 (by rw [ep, List.length_map]; show _ = (((_ : Nat) + new.length : Nat) : Int); omega)
            refine ⟨_, rfl, _, rfl, ?_⟩
            refine ⟨_, rfl, _, rfl, a, _, _, _, rfl, rfl, SqT.of (s5 _ _ t1), rfl, _, _, rfl, .inr ⟨_, SqT.of (lsm s5 t2), rfl⟩, _, _, rfl, rfl, ?_⟩
            exact ⟨_, rfl, .inl ⟨rfl, _, SqL.of ha5⟩, _, rfl, ah, _, _, rfl, rfl, ha5, d1, d2⟩
          | some x =>
            obtain ⟨b, sp⟩ := x
            rw [hbest] at la
            obtain ⟨bm, u, rfl, hu⟩ := la
            refine ⟨_, rfl, _, rfl, ?_⟩
            refine ⟨_, rfl, u, _, _, _, rfl, rfl, SqT.of hu, rfl, _, rfl, a, _, _, _, rfl, rfl, SqT.of (s5 _ _ t1), rfl, _, _, rfl, .inr ⟨_, SqT.of (lsm s5 t2), rfl⟩, _, _, rfl, rfl, _, rfl, ?_⟩
            rw [List.length_map]
            by_cases cc : costOf sp < new.length
            · refine itep (decide_eq_true (by omega)) ?_
              have ep : planLeaf ps z new = ⟨z, .leaf new, b.steps + 1, some (b.name, sp)⟩ := by unfold planLeaf; rw [hbest]; simp only [cc, if_true]
              have gb := DGet.k (k := Sum.inr b.name) hf5
              rw [getS b bm] at gb
              refine ⟨_, rfl, _, rfl, u, _, _, _, rfl, rfl, SqT.of hu, rfl, fd, _, rfl, gb, _, _, rfl, rfl, _, rfl, _, rfl, fd, _, rfl, DPut.k (k := Sum.inr z) hf5 (dV_len' nI _ (n := 1001) (by rw [List.length_append]; unfold stL; rw [List.length_map]; show _ + 1 ≤ _; omega) (by decide)), ?_⟩
              have e2 : ((b.steps : Nat) : Int) + 1 = ((b.steps + 1 : Nat) : Int) := by omega
              change Ends.nx _ _ (upd H5 fd (.dK (putK (dV nI (stL ps ++ [(z, 0)])) (Sum.inr z) (V.int (((b.steps : Nat) : Int) + 1)))))
              rw [e2, show putK (dV nI (stL ps ++ [(z, 0)])) (Sum.inr z) (V.int ((b.steps + 1 : Nat) : Int)) = dV nI (stL ps ++ [(z, b.steps + 1)]) from (dV_put nI (stL ps ++ [(z, 0)]) z (b.steps + 1)).trans (by rw [dput_last nk])]
              have hs6 : Same H (upd H5 fd (.dK (dV nI (stL ps ++ [(z, b.steps + 1)])))) := Same.mut hs5 hfd
              have tp6 := tups_dk (o := .dK (dV nI (stL ps ++ [(z, b.steps + 1)]))) hf5
              have ha6 : upd H5 fd (.dK (dV nI (stL ps ++ [(z, b.steps + 1)]))) ah = some (.lst (((lvs ps).map (·.name)).map V.str)) := nodk hf5 ha5 (fun _ z => nomatch z)
              obtain ⟨d1, d2⟩ := done (Wv := ((wtOf ps : Nat) : Int) + ((costOf sp : Nat) : Int)) (v7 := some (.ref u)) _ hs6 (by rw [ep]; exact upd_same) ha6 (by rw [ep]; show _ = (((_ : Nat) + costOf sp : Nat) : Int); omega)
              refine ⟨_, rfl, _, rfl, u, _, _, _, rfl, rfl, SqT.of (tp6 _ _ hu), rfl, _, _, rfl, rfl, ?_⟩
              exact ⟨_, rfl, .inl ⟨rfl, _, SqL.of ha6⟩, _, rfl, ah, _, _, rfl, rfl, ha6, d1, d2⟩
            · refine iten (by simp; omega) ?_
              have ep : planLeaf ps z new = ⟨z, .leaf new, 0, none⟩ := by unfold planLeaf; rw [hbest]; simp only [cc, if_false]
              obtain ⟨d1, d2⟩ := done (Wv := ((wtOf ps : Nat) : Int) + (((new.map V.str).length : Nat) : Int)) (v7 := some (.ref u)) H5 hs5 (by rw [ep]; exact hf5) ha5 (by rw [ep, List.length_map]; show _ = (((_ : Nat) + new.length : Nat) : Int); omega)
              refine ⟨_, rfl, _, rfl, a, _, _, _, rfl, rfl, SqT.of (s5 _ _ t1), rfl, _, _, rfl, .inr ⟨_, SqT.of (lsm s5 t2), rfl⟩, _, _, rfl, rfl, ?_⟩
              exact ⟨_, rfl, .inl ⟨rfl, _, SqL.of ha5⟩, _, rfl, ah, _, _, rfl, rfl, ha5, d1, d2⟩
      | tree rows =>
        obtain ⟨qn, as, t1, _⟩ := ta4
        refine ⟨_, rfl, a, _, _, _, rfl, rfl, SqT.of t1, rfl, rfl, _, rfl, ?_⟩
        refine iten (ne_s (by decide +kernel)) ?_
        refine ⟨_, _, _, _, _, rfl, hs4, hf4, ?_⟩
        rw [lvs_snoc_no (e := planOne ps (z, .tree rows)) (fun z => Bool.noConfusion z)]; exact ha4
      | note tr pp wn =>
        obtain ⟨qn, t1, _⟩ := ta4
        refine ⟨_, rfl, a, _, _, _, rfl, rfl, SqT.of t1, rfl, rfl, _, rfl, ?_⟩
        refine iten (ne_s (by decide +kernel)) ?_
        refine ⟨_, _, _, _, _, rfl, hs4, hf4, ?_⟩
        rw [lvs_snoc_no (e := planOne ps (z, .note tr pp wn)) (fun z => Bool.noConfusion z)]; exact ha4
    · rintro σ H1 ⟨v5, v6, v7, v8, v9, rfl, hs, hf, ha⟩
      rw [e1, List.take_length] at hf
      rw [e1, List.take_length]
      refine ⟨_, rfl, _, rfl, by show 2 ≤ sizeLine; decide, fun u hu => ?_⟩
      exact k u fd _ hfd (Same.new hs hu) ⟨upd_same, same_new hu _ _ hf⟩
end
end An

namespace An
open PySem PySem.Spec L2
section
variable {P : Program} {w : World} {K : PySem.W.Frag} {mg : Str → Option Value} {base : Heap}
/-! ### whole -/
def spWhole : Sp := fun vs H Q _ => ∃ i : Int, vs = [.int i, .int i] ∧ Q (.bl true) H
theorem sc_whole : FnScope ["_law_found", "_law_due"] ["_law_found", "_law_due"] (defScope s_whole) := ⟨rfl, rfl, rfl, by decide +kernel, rfl, by decide +kernel, by decide +kernel⟩
theorem ok_whole (T : Tx K mg) : Gf P w K mg base CX0 1 (He.ga K "_law_whole") ["_law_found", "_law_due"] spWhole := by
  refine gf0_of T.d_whole sc_whole (fun _ _ _ _ _ _ us hl => match us, hl with | [_, _], _ => rfl) (fun vs H Q E h => ?_) (fun cdv A outer s H vs Q E hr h => ?_)
  · obtain ⟨i, rfl, _⟩ := h; rfl
  · obtain ⟨i, rfl, k⟩ := h
    refine ⟨_, pss_one (ps_ret (pe_and (pe_callB (r := rIsi K) call_isi rfl T.n_isinstance (by decide +kernel) (pa_cons (pv 0) (pa_cons (pe_tyv "int" T.n_int) pa_nil))) (pe_and (pe_not (pe_callB (r := rIsi K) call_isi rfl T.n_isinstance (by decide +kernel) (pa_cons (pv 0) (pa_cons (pe_tyv "bool" T.n_bool) pa_nil)))) (pe_one (pe_cmpR op_eq (pv 0) (pv 1) (nomark _)))))), ?_⟩
    refine ⟨_, rfl, _, _, _, _, _, rfl, .ty _, .base (.int _), kit_ty ki_ii, _, rfl, ?_⟩
    refine ⟨_, rfl, _, _, _, _, _, rfl, .ty _, .base (.int _), kit_ty ki_ib, _, rfl, _, rfl, ?_⟩
    refine ⟨_, rfl, _, rfl, rfl, ?_⟩
    rw [decide_eq_true rfl]
    exact k
/-! ### refused -/
def spRefused (P : Program) (w : World) (K : PySem.W.Frag) (b : Bool) : Sp := fun vs H Q _ => ∃ (st r : Addr) (L : Cont) (vr : List V), vs = [.ref st, .ref r] ∧ StB P w (He.ga K "Pack") (He.ga K "Shelf") 1 b H st L ∧ H r = some (.lst vr) ∧ (∀ v ∈ vr, VOk H v) ∧ vr.length ≤ 2000 ∧ (∃ v ∈ vr, hasV (nms L) v = false) ∧ ∀ H', Same H H' → Q (.bl true) H'
theorem sc_refused : FnScope ["_law_store", "_law_roots"] ["_law_store", "_law_roots"] (defScope s_refused) := ⟨rfl, rfl, rfl, by decide +kernel, rfl, by decide +kernel, by decide +kernel⟩
theorem ok_refused (T : Tx K mg) (b : Bool) : Gf P w K mg base CX0 18 (He.ga K "_law_refused") ["_law_store", "_law_roots"] (spRefused P w K b) := by
  have GP_init : Gf P w K mg base (L2.CX P w) 16 _ _ (spPInit P w K 1 b) := ok_P_init T 1 14 b (by decide) (api1 T b)
  refine gf0_of T.d_refused sc_refused (fun _ _ _ _ _ _ us hl => match us, hl with | [_, _], _ => rfl) (fun vs H Q E h => ?_) (fun cdv A outer s H vs Q E hr h => ?_)
  · obtain ⟨st, r, L, vr, rfl, _⟩ := h; rfl
  · obtain ⟨st, r, L, vr, rfl, sb, hr0, vo, ln, bad, k⟩ := h
    have hr1 : Room 17 _ := hr
    refine ⟨_, pss_cons (ps_try_only (tb := fun W => tDrop (tMakeS (He.ga K "Pack") (spPInit P w K 1 b) (WE W) (tCons (tVar 0) (tCons (tVar 1) tNil)))) (ts := fun _ _ _ => tRet (tC (.bl true))) (Wout := fun _ _ _ _ => False) rfl rfl ⟨rfl, by decide, Or.inl T.g_NoName⟩ takes0
      (fun W pn xe tk _ => pss_one (ps_expr (pe_mkS T.mkP GP_init hr1 T.g_Pack (fun σ => passAt tk σ) (by exact (pa_cons (pv 0) (pa_cons (pv 1) pa_nil))))))
      (fun _ _ _ _ _ _ _ => pss_one (ps_ret pe_bl)))
      (pss_one (ps_ret pe_bl)), ?_⟩
    refine ⟨_, rfl, _, rfl, fun x dx hx hdx ne => ?_⟩
    have s1 := same_new (o := .own x) hdx
    have hx1 : upd H dx (.own x) x = none := by rw [upd_ne (Ne.symm ne)]; exact hx
    refine ⟨x, st, r, dx, H, L, vr, rfl, upd_same, Same.new s1 hx1, hx, sb, hr0, vo, ln, .inr ⟨bad, fun H' s => ?_⟩⟩
    exact ⟨true, T.eN, fun _ a ha => k H' s, fun q => nomatch q⟩
/-! ### missed -/
def spMissed (K : PySem.W.Frag) : Sp := fun vs H Q _ => ∃ (p wd sd : Addr) (M : Cont) (v : V), vs = [.ref p, v] ∧ PackW (He.ga K "Pack") H p wd sd M ∧ VOk H v ∧ hasV (nms M) v = false ∧ Q (.bl true) H
theorem sc_missed : FnScope ["_law_pack", "_law_name", "_law_missed_here"] ["_law_pack", "_law_name"] (defScope s_missed) := ⟨rfl, rfl, rfl, by decide +kernel, rfl, by decide +kernel, by decide +kernel⟩
theorem ok_missed (T : Tx K mg) : Gf P w K mg base CX0 10 (He.ga K "_law_missed") ["_law_pack", "_law_name"] (spMissed K) := by
  have GP_thing : Gf P w K mg base (L2.CX P w) 8 _ _ (spPThing K 4) := ok_P_thing T 4
  have GP_steps : Gf P w K mg base (L2.CX P w) 7 _ _ (spPSteps K 4) := ok_P_steps T 4
  have GP_has : Gf P w K mg base CX0 1 _ _ (spPHas K) := ok_P_has T
  refine gf0_of T.d_missed sc_missed (fun _ _ _ _ _ _ us hl => match us, hl with | [_, _], _ => rfl) (fun vs H Q E h => ?_) (fun cdv A outer s H vs Q E hr h => ?_)
  · obtain ⟨p, wd, sd, M, v, rfl, _⟩ := h; rfl
  · obtain ⟨p, wd, sd, M, v, rfl, ⟨pm, ok⟩, vo, no, k⟩ := h
    have hr1 : Room 8 _ := hr.mono (by decide)
    have hr2 : Room 7 _ := hr.mono (by decide)
    obtain ⟨dx, o, ws, ss, h1, _⟩ := id pm.ex
    have pl := plan_ok ok
    have no' : hasV ((planAll M).map (·.name)) v = false := by rw [planAll_names]; exact no
    refine ⟨_, pss_cons (ps_set (i := 2) sc_missed.nd rfl (Or.inl rfl) pe_int)
      (pss_cons (ps_try_only (tb := fun W => tDrop (tMethS (He.ga K "Pack") "thing" (spPThing K 4) (WE W) (tVar 0) (tCons (tVar 1) tNil))) (ts := fun _ _ _ => tAsg (tOp (rI0 fun i j => V.int (i + j)) (tVar 2) (tC (.int 1))) (gName 2)) (Wout := fun _ _ _ _ => False) rfl rfl ⟨rfl, by decide, Or.inl T.g_NoName⟩ takes0
        (fun W pn xe tk _ => pss_one (ps_expr (pe_mtS T.clP T.mP_thing GP_thing hr1 (fun σ => passAt tk σ) (pv 0) (by exact (pa_cons (pv 1) pa_nil)))))
        (fun _ _ _ _ _ _ _ => pss_one (ps_set (i := 2) sc_missed.nd rfl (Or.inl rfl) (pe_op op_add (pv 2) pe_int))))
      (pss_cons (ps_try_only (tb := fun W => tDrop (tMethS (He.ga K "Pack") "steps" (spPSteps K 4) (WE W) (tVar 0) (tCons (tVar 1) tNil))) (ts := fun _ _ _ => tAsg (tOp (rI0 fun i j => V.int (i + j)) (tVar 2) (tC (.int 1))) (gName 2)) (Wout := fun _ _ _ _ => False) rfl rfl ⟨rfl, by decide, Or.inl T.g_NoName⟩ takes0
        (fun W pn xe tk _ => pss_one (ps_expr (pe_mtS T.clP T.mP_steps GP_steps hr2 (fun σ => passAt tk σ) (pv 0) (by exact (pa_cons (pv 1) pa_nil)))))
        (fun _ _ _ _ _ _ _ => pss_one (ps_set (i := 2) sc_missed.nd rfl (Or.inl rfl) (pe_op op_add (pv 2) pe_int))))
      (pss_one (ps_ret (pe_and (pe_cmpR op_eq (pv 2) pe_int (nomark _)) (pe_one (pe_cmpR op_isBl (pe_mt T.clP T.mP_has GP_has (hr.mono (by decide)) pass0 (pv 0) (pa_cons (pv 1) pa_nil)) pe_bl (nomark _)))))))), ?_⟩
    refine ⟨_, rfl, p, dx, _, rfl, h1, pk_no, _, rfl, p, wd, sd, v, _, _, rfl, pm, pl, vo, .inr ⟨no', true, T.eN, fun _ a ha => ?_, fun q => nomatch q⟩⟩
    refine ⟨_, rfl, _, _, rfl, rfl, ?_⟩
    refine ⟨_, rfl, p, dx, _, rfl, h1, pk_no, _, rfl, p, wd, sd, v, _, _, rfl, pm, pl, vo, .inr ⟨no', true, T.eN, fun _ a ha => ?_, fun q => nomatch q⟩⟩
    refine ⟨_, rfl, _, _, rfl, rfl, ?_⟩
    refine ⟨_, rfl, rfl, _, rfl, ?_⟩
    refine ⟨_, rfl, p, dx, _, rfl, h1, pk_no, _, rfl, p, wd, sd, v, _, _, rfl, pm, pl.nd, vo, ?_⟩
    rw [no']
    exact ⟨_, _, rfl, rfl, k⟩
end
end An

namespace An
open PySem PySem.Spec L2
theorem stL_get {M : Cont} (ok : StOk M) {e : PEnt} (h : e ∈ planAll M) : valV (dV nI (stL (planAll M))) (Sum.inr e.name) = some (nI e.steps) :=
  dV_mem nI (by rw [stL_keys]; exact (plan_ok ok).nd) (List.mem_map.mpr ⟨e, h, rfl⟩)
section
variable {P : Program} {w : World} {K : PySem.W.Frag} {mg : Str → Option Value} {base : Heap}
/-! ### names_like -/
def spNamesLike (K : PySem.W.Frag) : Sp := fun vs H Q _ => ∃ (p wd sd ln pa : Addr) (M : Cont) (i : Int), vs = [.ref p, .ref ln, .ref pa, .int i] ∧ PackW (He.ga K "Pack") H p wd sd M ∧ H ln = some (.lst ((nms M).map V.str)) ∧ PlanAt H pa M ∧ Q (.bl true) H
theorem sc_names_like : FnScope ["_law_pack", "_law_names", "_law_plan_here", "_law_cell", "_law_k", "_law_step", "_law_name", "_law_turn", "_law_ask"] ["_law_pack", "_law_names", "_law_plan_here", "_law_cell"] (defScope s_names_like) := ⟨rfl, rfl, rfl, by decide +kernel, rfl, by decide +kernel, by decide +kernel⟩
theorem ok_names_like (T : Tx K mg) : Gf P w K mg base CX0 8 (He.ga K "_law_names_like") ["_law_pack", "_law_names", "_law_plan_here", "_law_cell"] (spNamesLike K) := by
  have GP_steps : Gf P w K mg base (L2.CX P w) 7 _ _ (spPSteps K 4) := ok_P_steps T 4
  have GP_has : Gf P w K mg base CX0 1 _ _ (spPHas K) := ok_P_has T
  have G_whole : Gf P w K mg base CX0 1 _ _ spWhole := ok_whole T
  refine gf0_of T.d_names_like sc_names_like (fun _ _ _ _ _ _ us hl => match us, hl with | [_, _, _, _], _ => rfl) (fun vs H Q E h => ?_) (fun cdv A outer s H vs Q E hr h => ?_)
  · obtain ⟨p, wd, sd, ln, pa, M, i, rfl, _⟩ := h; rfl
  · obtain ⟨p, wd, sd, ln, pa, M, i, rfl, ⟨pm, ok⟩, hl, ⟨fd, hp1, hp2⟩, k⟩ := h
    obtain ⟨dx, o, ws, ss, h1, _⟩ := id pm.ex
    have pl := plan_ok ok
    refine ⟨_, pss_cons (ps_for PassesOwn.never rfl (pi_range1 rfl T.n_range (pa_cons (pe_callB (r := rLen K) call_len rfl T.n_len (by decide +kernel) (pa_cons (pv 1) pa_nil)) pa_nil)) (pg_name (i := 4) sc_names_like.nd rfl (Or.inl rfl))
        (pss_cons (ps_set (i := 5) sc_names_like.nd rfl (Or.inl rfl) (pe_op op_add pe_int (pe_op op_mul (pe_op op_mod (pv 3) pe_int) (pe_op op_sub (pe_callB (r := rLen K) call_len rfl T.n_len (by decide +kernel) (pa_cons (pv 1) pa_nil)) pe_int))))
        (pss_cons (ps_set (i := 6) sc_names_like.nd rfl (Or.inl rfl) (pe_ix (r := rIxL K) ix_list (pv 1) (pe_op op_mod (pe_op op_add (pe_op op_mul (pv 4) (pv 5)) (pe_op op_fdiv (pv 3) pe_int)) (pe_callB (r := rLen K) call_len rfl T.n_len (by decide +kernel) (pa_cons (pv 1) pa_nil))) (fun _ _ => rfl)))
        (pss_one (ps_for PassesOwn.never rfl (pi_range1 rfl T.n_range (pa_cons pe_int pa_nil)) (pg_name (i := 7) sc_names_like.nd rfl (Or.inl rfl))
          (pss_cons (ps_set (i := 8) sc_names_like.nd rfl (Or.inl rfl) (pe_op op_mod (pe_op op_add (pe_op op_add (pe_op op_fdiv (pv 3) pe_int) (pv 4)) (pv 7)) pe_int))
          (pss_cons (ps_if (PW.pt (pw_and (pt_cmpR op_eq (pv 8) pe_int (nomark _)) (pw_and1 (pt_cmpR op_notBl (pe_mt T.clP T.mP_has GP_has (hr.mono (by decide)) pass0 (pv 0) (pa_cons (pv 6) pa_nil)) pe_bl (nomark _)))))
            (pss_one (ps_ret pe_bl))
            (pss_nil))
          (pss_one (ps_if (PW.pt (pw_and (pt_cmpR op_eq (pv 8) pe_int (nomark _)) (pw_and1 (pt_not (pt_val (pe_fn G_whole (hr.mono (by decide)) T.g_whole pass0 (pa_cons (pe_mt T.clP T.mP_steps GP_steps (hr.mono (by decide)) passL (pv 0) (pa_cons (pv 6) pa_nil)) (pa_cons (pe_dget (hu_of hr) (pe_ix (r := rIxT K) ix_tup (pv 2) pe_int (fun _ _ => rfl)) (pv 6) (fun _ _ => rfl)) pa_nil))))))))
            (pss_one (ps_ret pe_bl))
            (pss_nil))))))))))
      (pss_one (ps_ret pe_bl)), ?_⟩
    have e1 : ((nms M).map V.str).length = M.length := by unfold nms; rw [List.length_map, List.length_map]
    have sz := ok.sz
    refine ⟨_, rfl, _, _, rfl, .inl ⟨_, SqL.of hl, rfl⟩, _, rfl, by omega, by omega, for_it walk_range (fun k σ H' => ∃ (v5 v6 v7 v8 : Option V) (v4 : Option V), σ = [some (.ref p), some (.ref ln), some (.ref pa), some (.int i), v4, v5, v6, v7, v8] ∧ H' = H) ⟨none, none, none, none, none, rfl, rfl⟩ (fun _ _ _ _ _ => trivial) ?_ ?_⟩
    · rintro k2 x σ H1 H2 hk ⟨v5, v6, v7, v8, v4, rfl, rfl⟩ ⟨rfl, hx⟩
      have hx' : x = V.int (0 + ((k2 : Nat) : Int)) := hx
      subst hx'
      rw [Int.toNat_natCast, e1] at hk
      refine ⟨_, rfl, _, _, rfl, rfl, p0, _, rfl, _, _, rfl, .inl ⟨_, SqL.of hl, rfl⟩, _, _, rfl, rfl, _, _, rfl, rfl, .inl ⟨by omega, by omega⟩, _, _, rfl, rfl, ?_⟩
      rw [e1]
      obtain ⟨stp, estp⟩ : ∃ stp : Int, stp = 1 + i % 2 * (((M.length : Nat) : Int) - 2) := ⟨_, rfl⟩
      change Ends.nx _ [some (.ref p), some (.ref ln), some (.ref pa), some (.int i), some (.int (0 + ((k2 : Nat) : Int))), some (.int (1 + i % 2 * (((M.length : Nat) : Int) - 2))), v6, v7, v8] _
      rw [← estp]
      obtain ⟨z, hz, hat⟩ := pickS (ys := nms M) (i := ((0 + ((k2 : Nat) : Int)) * stp + i / 2) % (((((nms M).map V.str).length : Nat) : Int))) (Int.emod_nonneg _ (by rw [e1]; omega)) (by have := Int.emod_lt_of_pos ((0 + ((k2 : Nat) : Int)) * stp + i / 2) (b := ((((nms M).map V.str).length : Nat) : Int)) (by rw [e1]; omega); rw [List.length_map] at this; rw [List.length_map]; exact this)
      refine ⟨_, rfl, _, rfl, _, rfl, _, _, rfl, rfl, .inl ⟨by omega, by omega⟩, _, rfl, _, _, rfl, rfl, cd, _, _, rfl, rfl, _, rfl, _, _, rfl, .inl ⟨_, SqL.of hl, rfl⟩, _, _, rfl, rfl, p0 (by rw [e1]; omega), ln, _, _, _, rfl, rfl, SqL.of hl, hat, ?_⟩
      have zp : z ∈ (planAll M).map (·.name) := by rw [planAll_names]; exact hz
      obtain ⟨e, he, en⟩ := List.mem_map.mp zp
      have hz1 : hasV ((planAll M).map (·.name)) (.str z) = true := decide_eq_true zp
      refine ⟨_, rfl, by omega, by omega, for_it walk_range (fun t σ H' => ∃ (v7 v8 : Option V), σ = [some (.ref p), some (.ref ln), some (.ref pa), some (.int i), some (.int (0 + ((k2 : Nat) : Int))), some (.int stp), some (.str z), v7, v8] ∧ H' = H2) ⟨_, _, rfl, rfl⟩ (fun _ _ _ _ _ => trivial) ?_ ?_⟩
      · rintro t x σ H3 H4 ht ⟨v7, v8, rfl, rfl⟩ ⟨rfl, hx⟩
        have hx' : x = V.int (0 + ((t : Nat) : Int)) := hx
        subst hx'
        refine ⟨_, rfl, _, _, rfl, rfl, cd, _, rfl, _, _, rfl, rfl, _, rfl, _, _, rfl, rfl, _, _, rfl, rfl, p0, ?_⟩
        obtain ⟨ask, eask⟩ : ∃ ask : Int, ask = (i / 2 + (0 + ((k2 : Nat) : Int)) + (0 + ((t : Nat) : Int))) % 2 := ⟨_, rfl⟩
        change Ends.nx _ [some (.ref p), some (.ref ln), some (.ref pa), some (.int i), some (.int (0 + ((k2 : Nat) : Int))), some (.int stp), some (.str z), some (.int (0 + ((t : Nat) : Int))), some (.int ((i / 2 + (0 + ((k2 : Nat) : Int)) + (0 + ((t : Nat) : Int))) % 2))] _
        rw [← eask]
        refine ⟨_, rfl, rfl, _, rfl, ?_⟩
        by_cases c0 : ask = 0
        · refine itep (decide_eq_true (show V.int ask = V.int 0 by rw [c0])) ?_
          refine ⟨_, rfl, p, dx, _, rfl, h1, pk_no, _, rfl, p, wd, sd, _, _, _, rfl, pm, pl.nd, trivial, ?_⟩
          rw [hz1]
          refine ⟨_, _, rfl, rfl, _, rfl, ?_⟩
          refine ⟨_, rfl, rfl, _, rfl, ?_⟩
          refine iten (ne_i (by omega)) ?_
          exact ⟨_, _, rfl, rfl⟩
        · refine iten (ne_i c0) ?_
          have c1 : ask = 1 := by omega
          refine ⟨_, rfl, rfl, _, rfl, ?_⟩
          refine itep (decide_eq_true (show V.int ask = V.int 1 by rw [c1])) ?_
          have gd := DGet.k (k := Sum.inr e.name) hp2
          rw [stL_get ok he] at gd
          refine ⟨_, rfl, p, dx, _, rfl, h1, pk_no, _, rfl, p, wd, sd, _, _, _, rfl, pm, pl, trivial, .inl ⟨e, he, by rw [en], steps_le pl he, ?_⟩⟩
          refine ⟨_, rfl, pa, _, _, _, rfl, rfl, SqT.of hp1, rfl, _, rfl, fd, _, rfl, by rw [← en]; exact gd, _, rfl, ?_⟩
          exact ⟨true, rfl, _, _, rfl, rfl⟩
      · rintro σ H3 ⟨v7, v8, rfl, rfl⟩
        exact ⟨_, _, _, _, _, rfl, rfl⟩
    · rintro σ H1 ⟨v5, v6, v7, v8, v4, rfl, rfl⟩
      exact k
/-! ### like -/
def spLike (K : PySem.W.Frag) : Sp := fun vs H Q _ => ∃ (p wd sd ln pa : Addr) (M : Cont) (i : Int), vs = [.ref p, .ref ln, .ref pa, .int i] ∧ PackW (He.ga K "Pack") H p wd sd M ∧ H ln = some (.lst ((nms M).map V.str)) ∧ PlanAt H pa M ∧ (∀ z ∈ nms M, PyData.strOk z = true) ∧ ∀ H', Same H H' → Q (.bl true) H'
theorem sc_like : FnScope ["_law_pack", "_law_names", "_law_plan_here", "_law_cell", "_law_turn", "_law_ask"] ["_law_pack", "_law_names", "_law_plan_here", "_law_cell"] (defScope s_like) := ⟨rfl, rfl, rfl, by decide +kernel, rfl, by decide +kernel, by decide +kernel⟩
theorem ok_like (T : Tx K mg) : Gf P w K mg base CX0 9 (He.ga K "_law_like") ["_law_pack", "_law_names", "_law_plan_here", "_law_cell"] (spLike K) := by
  have GP_names : Gf P w K mg base CX0 1 _ _ (spPNames K) := ok_P_names T
  have GP_weight : Gf P w K mg base CX0 2 _ _ (spPWeight K) := ok_P_weight T
  have G_whole : Gf P w K mg base CX0 1 _ _ spWhole := ok_whole T
  have G_names_like : Gf P w K mg base CX0 8 _ _ (spNamesLike K) := ok_names_like T
  refine gf0_of T.d_like sc_like (fun _ _ _ _ _ _ us hl => match us, hl with | [_, _, _, _], _ => rfl) (fun vs H Q E h => ?_) (fun cdv A outer s H vs Q E hr h => ?_)
  · obtain ⟨p, wd, sd, ln, pa, M, i, rfl, _⟩ := h; rfl
  · obtain ⟨p, wd, sd, ln, pa, M, i, rfl, pw, hl, pt, so, k⟩ := h
    have pl := plan_ok pw.2
    refine ⟨_, pss_cons (ps_for PassesOwn.never rfl (pi_range1 rfl T.n_range (pa_cons pe_int pa_nil)) (pg_name (i := 4) sc_like.nd rfl (Or.inl rfl))
        (pss_cons (ps_set (i := 5) sc_like.nd rfl (Or.inl rfl) (pe_op op_mod (pe_op op_add (pv 3) (pe_op op_mul (pv 4) (pe_op op_add pe_int (pe_op op_mod (pe_op op_fdiv (pv 3) pe_int) pe_int)))) pe_int))
        (pss_cons (ps_if (PW.pt (pw_and (pt_cmpR op_eq (pv 5) pe_int (nomark _)) (pw_and1 (PW.pt (pw_or (pt_not (pt_val (pe_callB (r := rIsi K) call_isi rfl T.n_isinstance (by decide +kernel) (pa_cons (pe_mt0 T.clP T.mP_names GP_names (hr.mono (by decide)) pass0 (pv 0)) (pa_cons (pe_tyv "list" T.n_list) pa_nil))))) (pw_or1 (pt_cmpR (r := rNeD K) (op_neD hr.units) (pe_mt0 T.clP T.mP_names GP_names (hr.mono (by decide)) pass0 (pv 0)) (pv 1) (nomark _))))))))
          (pss_one (ps_ret pe_bl))
          (pss_nil))
        (pss_cons (ps_if (PW.pt (pw_and (pt_cmpR op_eq (pv 5) pe_int (nomark _)) (pw_and1 (pt_not (pt_val (pe_fn G_whole (hr.mono (by decide)) T.g_whole pass0 (pa_cons (pe_mt0 T.clP T.mP_weight GP_weight (hr.mono (by decide)) pass0 (pv 0)) (pa_cons (pe_ix (r := rIxT K) ix_tup (pv 2) pe_int (fun _ _ => rfl)) pa_nil))))))))
          (pss_one (ps_ret pe_bl))
          (pss_nil))
        (pss_one (ps_if (PW.pt (pw_and (pt_cmpR op_eq (pv 5) pe_int (nomark _)) (pw_and1 (pt_not (pt_val (pe_fn G_names_like (hr.mono (by decide)) T.g_names_like pass0 (pa_cons (pv 0) (pa_cons (pv 1) (pa_cons (pv 2) (pa_cons (pe_op op_fdiv (pv 3) pe_int) pa_nil))))))))))
          (pss_one (ps_ret pe_bl))
          (pss_nil)))))))
      (pss_one (ps_ret pe_bl)), ?_⟩
    refine ⟨_, rfl, by omega, by omega, for_it walk_range (fun t σ H' => ∃ (v4 v5 : Option V), σ = [some (.ref p), some (.ref ln), some (.ref pa), some (.int i), v4, v5] ∧ Same H H') ⟨none, none, rfl, Same.refl _⟩ (fun _ _ _ _ _ => trivial) ?_ ?_⟩
    · rintro t x σ H1 H2 ht ⟨v4, v5, rfl, hs⟩ ⟨rfl, hx⟩
      have hx' : x = V.int (0 + ((t : Nat) : Int)) := hx
      subst hx'
      have pw2 := pw.mono hs
      obtain ⟨dx, o, ws, ss, h1, _⟩ := id pw2.1.ex
      refine ⟨_, rfl, _, rfl, _, rfl, _, _, rfl, rfl, cd, _, _, rfl, rfl, p0, _, _, rfl, rfl, _, _, rfl, rfl, .inl ⟨by omega, by omega⟩, _, _, rfl, rfl, _, _, rfl, rfl, p0, ?_⟩
      obtain ⟨ask, eask⟩ : ∃ ask : Int, ask = (i + (0 + ((t : Nat) : Int)) * (1 + i / 3 % 2)) % 3 := ⟨_, rfl⟩
      have ar : 0 ≤ ask ∧ ask < 3 := by rw [eask]; exact ⟨Int.emod_nonneg _ (by decide), Int.emod_lt_of_pos _ (by decide)⟩
      change Ends.nx _ [some (.ref p), some (.ref ln), some (.ref pa), some (.int i), some (.int (0 + ((t : Nat) : Int))), some (.int ((i + (0 + ((t : Nat) : Int)) * (1 + i / 3 % 2)) % 3))] _
      rw [← eask]
      refine ⟨_, rfl, rfl, _, rfl, ?_⟩
      by_cases c0 : ask = 0
      · refine itep (decide_eq_true (show V.int ask = V.int 0 by rw [c0])) ?_
        refine ⟨_, rfl, p, dx, _, rfl, h1, pk_no, p, wd, sd, _, _, rfl, pw2.1, fun l hl1 => ?_⟩
        have s1 := same_new (o := .lst ((nms M).map V.str)) hl1
        refine ⟨_, _, _, _, _, rfl, .ty _, .base (.lst upd_same), kit_ty ki_ll, _, rfl, ?_⟩
        refine ⟨_, rfl, p, dx, _, rfl, s1 _ _ h1, pk_no, p, wd, sd, _, _, rfl, pw2.1.mono s1, fun l2 hl2 => ?_⟩
        have s2 := Same.new (o := .lst ((nms M).map V.str)) s1 hl2
        refine ⟨_, rfl, .list ((nms M).map .str), .list ((nms M).map .str), dp_strs upd_same, dp_strs (s2 _ _ (hs _ _ hl)), shaped_strs so, shaped_strs so, _, rfl, ?_⟩
        rw [eqv_strs, decide_eq_true rfl]
        refine ⟨_, rfl, rfl, _, rfl, ?_⟩
        refine iten (ne_i (by omega)) ?_
        refine ⟨_, rfl, rfl, _, rfl, ?_⟩
        refine iten (ne_i (by omega)) ?_
        exact ⟨_, _, rfl, Same.trans hs s2⟩
      · refine iten (ne_i c0) ?_
        refine ⟨_, rfl, rfl, _, rfl, ?_⟩
        by_cases c1 : ask = 1
        · refine itep (decide_eq_true (show V.int ask = V.int 1 by rw [c1])) ?_
          refine ⟨_, rfl, p, dx, _, rfl, h1, pk_no, p, wd, sd, _, _, rfl, pw2.1, pl, fun H3 s3 => ?_⟩
          have hs3 := Same.trans hs s3
          obtain ⟨fd, hp1, hp2⟩ := pt.mono hs3
          refine ⟨_, rfl, pa, _, _, _, rfl, rfl, SqT.of hp1, rfl, _, rfl, ?_⟩
          refine ⟨true, rfl, ?_⟩
          refine ⟨_, rfl, rfl, _, rfl, ?_⟩
          refine iten (ne_i (by omega)) ?_
          exact ⟨_, _, rfl, hs3⟩
        · refine iten (ne_i c1) ?_
          refine ⟨_, rfl, rfl, _, rfl, ?_⟩
          refine itep (decide_eq_true (show V.int ask = V.int 2 by rw [show ask = 2 by omega])) ?_
          refine ⟨_, rfl, _, rfl, _, rfl, _, rfl, _, _, rfl, rfl, cd, p, wd, sd, ln, pa, M, _, rfl, pw2, hs _ _ hl, pt.mono hs, ?_⟩
          exact ⟨true, rfl, _, _, rfl, hs⟩
    · rintro σ H1 ⟨v4, v5, rfl, hs⟩
      exact k H1 hs
end
end An

namespace An
open PySem PySem.Spec L2
theorem hu65 {k : Nat} {A : Around} (hr : Room k A) : A.units + 65 < cLine := by have := hr.un; omega
theorem cut_ints (ns : List Int) (lo hi : Nat) : ∃ ms : List Int, cutV (ns.map V.int) (some ((lo : Nat) : Int)) (some ((hi : Nat) : Int)) = ms.map V.int ∧ ms.length ≤ hi - lo := by
  refine ⟨(ns.drop (min lo ns.length)).take (min hi ns.length - min lo ns.length), ?_, ?_⟩
  · unfold cutV
    rw [HT.sIx_nat, HT.sIx_nat, List.length_map, List.map_take, List.map_drop]
  · rw [List.length_take]; omega
theorem strs_of {ns : List Str} : ∀ {ys : List V}, (∀ y ∈ ys, y ∈ ns.map V.str) → ∃ R : List Str, ys = R.map V.str ∧ ∀ z ∈ R, z ∈ ns
  | [], _ => ⟨[], rfl, fun _ h => (nomatch h)⟩
  | y :: r, h => by
    obtain ⟨R, e, hR⟩ := strs_of (ys := r) fun x hx => h x (List.mem_cons_of_mem _ hx)
    obtain ⟨z, hz, rfl⟩ := List.mem_map.mp (h y List.mem_cons_self)
    refine ⟨z :: R, by rw [e]; rfl, fun x hx => ?_⟩
    rcases List.mem_cons.mp hx with q | q
    · rw [q]; exact hz
    · exact hR x q
/-- a list that is read, while a shelf grows -/
theorem sql_but {K : PySem.W.Frag} {P : Program} {w : World} {CP CS : Addr} {n : Nat} {H H' : Hp} {p o t g a : Addr} {L : Cont} {xs : List V} (k : ShAt P w CP CS n H p o t g L) (b : But (Sh3 o t g) H H') (h : SqL K H a xs) : SqL K H' a xs := by
  obtain ⟨vb, Lb, Lo, _, C, _⟩ := k
  obtain ⟨ow, o1, _⟩ := C.own
  obtain ⟨kvs, t1, _⟩ := C.told
  obtain ⟨gks, g1, _⟩ := C.gr
  have no : ∀ {u : HO}, H a = some u → (∀ k, u ≠ .dK k) → (∀ φ, u ≠ .ext φ) → ¬ Sh3 o t g a := fun hu n1 n2 z => by
    rcases z with z | z | z
    · rw [z, o1] at hu; exact n1 _ (Option.some.inj hu).symm
    · have := t1.1; rw [← z, hu] at this; exact n2 _ (Option.some.inj this)
    · rw [z, g1] at hu; exact n1 _ (Option.some.inj hu).symm
  rcases h with (h | ⟨ob, h⟩) | h
  · exact .inl (.inl (b _ _ (no h (fun _ z => nomatch z) (fun _ z => nomatch z)) h))
  · exact .inl (.inr ⟨ob, b _ _ (no h (fun _ z => nomatch z) (fun _ z => nomatch z)) h⟩)
  · exact .inr h
theorem sql_same {K : PySem.W.Frag} {H H' : Hp} {a : Addr} {xs : List V} (s : Same H H') (h : SqL K H a xs) : SqL K H' a xs := h.elim (fun q => .inl (rd_same s q)) .inr
/-- a pack, while a shelf grows -/
theorem PackW.but {P : Program} {w : World} {CP CS : Addr} {n : Nat} {H H' : Hp} {p q wd sd o t g : Addr} {L M : Cont} (k : PackW CP H q wd sd M) (sh : ShAt P w CP CS n H p o t g L) (b : But (Sh3 o t g) H H')
    (w1 : wd ≠ o) (w2 : wd ≠ g) (s1 : sd ≠ o) (s2 : sd ≠ g) : PackW CP H' q wd sd M := by
  have tp := sh_tups sh b
  obtain ⟨vb, Lb, Lo, _, C, _⟩ := sh
  obtain ⟨ow, o1, _⟩ := C.own
  obtain ⟨kvs, t1, _⟩ := C.told
  obtain ⟨gks, g1, _⟩ := C.gr
  have keep : ∀ {a : Addr} {u : HO}, H a = some u → a ≠ o → a ≠ g → (∀ φ, u ≠ .ext φ) → H' a = some u := fun hu n1 n2 n3 => b _ _ (by
    rintro (z | z | z)
    · exact n1 z
    · have := t1.1; rw [← z, hu] at this; exact n3 _ (Option.some.inj this)
    · exact n2 z) hu
  have keepN : ∀ {a : Addr} {u : HO}, H a = some u → (∀ k, u ≠ .dK k) → (∀ φ, u ≠ .ext φ) → H' a = some u := fun hu n1 n3 => keep hu (fun z => by rw [z, o1] at hu; exact n1 _ (Option.some.inj hu).symm) (fun z => by rw [z, g1] at hu; exact n1 _ (Option.some.inj hu).symm) n3
  obtain ⟨⟨⟨dx, or', ws, ss, h1, h2, h3, h4, h5, h6⟩, ne⟩, ok⟩ := k
  exact ⟨⟨⟨dx, or', ws, ss, keepN h1 (fun _ z => nomatch z) (fun _ z => nomatch z), keepN h2 (fun _ z => nomatch z) (fun _ z => nomatch z), keep h3 w1 w2 (fun _ z => nomatch z), OwnAt.mono tp h4, keep h5 s1 s2 (fun _ z => nomatch z),
    Paired.mapP h6 fun _ _ ⟨e, r, as, x1, x2, x3⟩ => ⟨e, r, as, tp _ _ x1, keepN x2 (fun _ z => nomatch z) (fun _ z => nomatch z), x3.mono tp⟩⟩, ne⟩, ok⟩
theorem sub_names {L : Cont} {roots : List Str} (h : ∀ z ∈ roots, z ∈ nms L) : ∀ z ∈ roots, z ∈ nms (sub L roots) := fun z hz => by
  obtain ⟨t, ht⟩ := mem_nms (h z hz)
  exact nms_mem (mem_sub.mpr ⟨ht, .root hz⟩)
theorem reach_none {L : Cont} {z : Str} (h : Reach L [] z) : False := by
  induction h with
  | root h => cases h
  | kid _ _ _ ih => exact ih
theorem sub_none (L : Cont) : sub L [] = [] := List.eq_nil_iff_forall_not_mem.mpr fun e he => reach_none (mem_sub.mp he).2
/-- what is asked as a name, as data -/
theorem data_of {K : PySem.W.Frag} {H : Hp} {ns : List Str} {v : V} (h : (∃ z, v = .str z ∧ PyData.strOk z = true) ∨ v = .non ∨ (∃ i, v = .int i) ∨ ∃ a, v = .ref a ∧ H a = some (.lst [.str "a"])) :
    ∃ d, Dp K H v d ∧ SeqAt.shaped d = true ∧ ((ns.map PyData.str).any fun z => PyData.eqv z d) = hasV ns v := by
  have anyF : ∀ d : PyData, (∀ z : Str, PyData.eqv (.str z) d = false) → ((ns.map PyData.str).any fun z => PyData.eqv z d) = false := fun d hd => by
    rw [List.any_eq_false]
    intro x hx
    obtain ⟨z, _, rfl⟩ := List.mem_map.mp hx
    rw [hd z]; exact Bool.false_ne_true
  rcases h with ⟨z, rfl, ok⟩ | rfl | ⟨i, rfl⟩ | ⟨a, rfl, ha⟩
  · refine ⟨.str z, .str z, ?_, ?_⟩
    · show (PyData.strOk z && _) = true
      rw [ok]; rfl
    · show _ = decide (z ∈ ns)
      induction ns with
      | nil => rfl
      | cons n r ih =>
        rw [List.map_cons, List.any_cons, ih (fun d hd => by
          rw [List.any_eq_false]
          intro x hx
          obtain ⟨z, _, rfl⟩ := List.mem_map.mp hx
          rw [hd z]; exact Bool.false_ne_true)]
        show (n == z || decide (z ∈ r)) = _
        by_cases c : n = z
        · subst c; simp
        · have c2 : ¬ z = n := fun e => c e.symm
          simp [c, c2]
  · exact ⟨.none, .non, by decide +kernel, anyF _ fun z => rfl⟩
  · exact ⟨.int i, .int i, rfl, anyF _ fun z => rfl⟩
  · exact ⟨.list [.str "a"], .lst (SqL.of ha) (.cons (.str _) .nil), by decide +kernel, anyF _ fun z => rfl⟩
theorem no_empty {b : Nat} {L : Cont} (N : NmOk b L) : ("" : Str) ∉ nms L := fun h => by
  obtain ⟨t, m⟩ := mem_nms h
  have := nm_first N m
  cases this
theorem no_99 {b : Nat} {L : Cont} (N : NmOk b L) (hb : b ≤ 99) : ("L1.99" : Str) ∉ nms L := fun h => by
  obtain ⟨t, m⟩ := mem_nms h
  obtain ⟨hd, k, e, o, l⟩ := N _ m
  have e1 : ("L1.99" : Str) = nameOf "L1" 99 := by decide +kernel
  have e' : ("L1.99" : Str) = nameOf hd k := e
  rw [e1] at e'
  have o1 : HdOk (.leaf []) "L1" := ⟨1, by decide, by decide +kernel⟩
  have := (name_inj o1 o e').2
  omega
end An

namespace An
open PySem PySem.Spec L2
theorem two_of {a b : V} {i : Int} : ∃ v, atI [a, b] (i % 3 - 1) = some v ∧ (v = a ∨ v = b) := by
  have h : i % 3 = 0 ∨ i % 3 = 1 ∨ i % 3 = 2 := by omega
  rcases h with h | h | h <;> rw [h]
  · exact ⟨b, rfl, .inr rfl⟩
  · exact ⟨a, rfl, .inl rfl⟩
  · exact ⟨b, rfl, .inr rfl⟩
theorem vok_strs {H : Hp} {R : List Str} : ∀ v ∈ R.map V.str, VOk H v := fun v hv => by
  obtain ⟨z, _, rfl⟩ := List.mem_map.mp hv
  trivial
theorem ThOk.later : ThOk (.leaf ["later", "and", "more"]) := by
  refine ⟨fun l hl => ?_, by decide⟩
  simp only [List.mem_cons, List.not_mem_nil, or_false] at hl
  have ok : ∀ z : Str, (decide (z.length ≤ 20) && z.cps.all fun c => decide (32 ≤ c ∧ c ≤ 126 ∧ c ≠ 37)) = true → LineOk z := fun z h => by
    have h1 := (Bool.and_eq_true_iff.mp h).1
    have h2 := (Bool.and_eq_true_iff.mp h).2
    exact ⟨of_decide_eq_true h1, fun c hc => of_decide_eq_true ((Array.all_eq_true_iff_forall_mem.mp h2) c (Array.mem_toList_iff.mp hc))⟩
  rcases hl with rfl | rfl | rfl <;> exact ok _ (by decide +kernel)
theorem not_later : ¬ Lf5 (.leaf ["later", "and", "more"]) := fun h => h "later" List.mem_cons_self (by decide +kernel)
section
variable {P : Program} {w : World} {K : PySem.W.Frag} {mg : Str → Option Value} {base : Heap}
theorem fn0_of {k : Nat} {f : Addr} {ps : List Str} {sp : Sp} {x qual : Str} {params : Arguments} {body : List Stmt} {scope : Scope} {N : List Str} {fd : FuncData} (F : FunD K x qual params body scope [] [] f fd) (S : FnScope N ps scope)
    (len : ∀ vs H Q E, sp vs H Q E → vs.length = ps.length)
    (hbody : ∀ (cdv : Value) (A : Around) (outer : List Env) (s : Shared) (H : Hp) (vs : List V) (Q : VK) (E : XK), Room k (A.deeper (PyProof.Rows.envOfC qual scope s.heap.objs.size f cdv)) → sp vs H Q E →
      ∃ t, PSs (cxOf CX0 P w K mg base N qual scope f cdv A outer s H E).nox body t ∧ t { nx := fun _ H' => Q .non H', rt := Q } (start N vs) H) : FnOk P w K mg base CX0 (k + 1) f fd ps sp :=
  F.ok S len fun cdv A outer s H vs Q E hr h => let ⟨t, a, b⟩ := hbody cdv A outer s H vs Q E hr h; ⟨t, a.nox, b⟩
def spLaw (K : PySem.W.Frag) : Sp := fun vs H Q _ => ∃ (a : Addr) (ns : List Int), vs = [.ref a] ∧ SqL K H a (ns.map V.int) ∧ ∀ H', Q (.bl true) H'
theorem sc_law : FnScope ["_law_script", "_law_shelf", "_law_every", "_law_roots", "_law_names", "_law_plan_here", "_law_handed", "_law_pack", "_law_again", "_law_thinned", "_law_odd", "_law_at", "_law_later", "_law_bare", "_law_told", "_law_name"] ["_law_script"] (defScope s_law) := ⟨rfl, rfl, rfl, by decide +kernel, rfl, by decide +kernel, by decide +kernel⟩
theorem ok_law (T : Tx K mg) {fd : FuncData} (F : FunD K "law" "law" (defArgs s_law) (defBody s_law) (defScope s_law) [] [] (He.ga K "law") fd) : FnOk P w K mg base CX0 25 (He.ga K "law") fd ["_law_script"] (spLaw K) := by
  have GS_init : Gf P w K mg base CX0 14 _ _ (spSInit P w K) := ok_S_init T
  have GP_init_S : Gf P w K mg base (L2.CX P w) 16 _ _ (spPInit P w K 1 false) := ok_P_init T 1 14 false (by decide) (api1 T false)
  have GP_init_P : Gf P w K mg base (L2.CX P w) 16 _ _ (spPInit P w K 1 true) := ok_P_init T 1 14 true (by decide) (api1 T true)
  have G_chain : Gf P w K mg base CX0 17 _ _ (spChain P w K) := ok_chain T
  have G_cell_at : Gf P w K mg base CX0 1 _ _ (spCell K) := ok_cell_at T
  have G_filled : Gf P w K mg base CX0 24 _ _ (spFilled P w K) := ok_filled T
  have GS_names : Gf P w K mg base CX0 14 _ _ (spNames P w K 1 false) := (api1 T false).G_names
  have G_closed : Gf P w K mg base CX0 15 _ _ (spClosed P w K) := ok_closed T
  have G_plan : Gf P w K mg base CX0 15 _ _ (spPlan P w K) := ok_plan T
  have G_reached_P : Gf P w K mg base (L2.CX P w) 15 _ _ (spReached P w K 1 true) := ok_reached T 1 14 true (by decide) (api1 T true)
  have G_refused_S : Gf P w K mg base CX0 18 _ _ (spRefused P w K false) := ok_refused T false
  have G_refused_P : Gf P w K mg base CX0 18 _ _ (spRefused P w K true) := ok_refused T true
  have GS_put : Gf P w K mg base CX0 16 _ _ (spPut P w K) := ok_S_put T
  have GP_names : Gf P w K mg base CX0 1 _ _ (spPNames K) := ok_P_names T
  have GP_weight : Gf P w K mg base CX0 2 _ _ (spPWeight K) := ok_P_weight T
  have GP_has : Gf P w K mg base CX0 1 _ _ (spPHas K) := ok_P_has T
  have G_whole : Gf P w K mg base CX0 1 _ _ spWhole := ok_whole T
  have G_like : Gf P w K mg base CX0 9 _ _ (spLike K) := ok_like T
  have G_missed : Gf P w K mg base CX0 10 _ _ (spMissed K) := ok_missed T
  refine fn0_of F sc_law (fun vs H Q E h => ?_) (fun cdv A outer s H vs Q E hr h => ?_)
  · obtain ⟨a, ns, rfl, _⟩ := h; rfl
  · obtain ⟨a, ns, rfl, sq0, k⟩ := h
    refine ⟨_, pss_cons (ps_set (i := 1) sc_law.nd rfl (Or.inl rfl) (pe_mk T.mkS GS_init (hr.mono (by decide)) T.g_Shelf pass0 (pa_cons pe_non pa_nil)))
      (pss_cons (ps_expr (pe_fn G_chain (hr.mono (by decide)) T.g_chain pass0 (pa_cons (pv 1) (pa_cons (pe_fn G_cell_at (hr.mono (by decide)) T.g_cell_at pass0 (pa_cons (pv 0) (pa_cons pe_int pa_nil))) pa_nil))))
      (pss_cons (ps_expr (pe_fn G_filled (hr.mono (by decide)) T.g_filled pass0 (pa_cons (pv 1) (pa_cons (pe_slice (r := rSlL K) sl_list (pv 0) (po_some pe_int) (po_some pe_int)) pa_nil))))
      (pss_cons (ps_if (pt_cmpR op_gt (pe_op op_mod (pe_op op_fdiv (pe_fn G_cell_at (hr.mono (by decide)) T.g_cell_at pass0 (pa_cons (pv 0) (pa_cons pe_int pa_nil))) pe_int) pe_int) pe_int (nomark _))
        (pss_one (ps_set (i := 1) sc_law.nd rfl (Or.inl rfl) (pe_mk T.mkS GS_init (hr.mono (by decide)) T.g_Shelf pass0 (pa_cons (pe_ix (r := rIxL K) ix_list (pe_lst (pa_cons (pv 1) (pa_cons (pe_mk T.mkP GP_init_S (hr.mono (by decide)) T.g_Pack passL (pa_cons (pv 1) (pa_cons (pe_mt0 T.clS T.mS_names GS_names (hr.mono (by decide)) pass0 (pv 1)) pa_nil))) pa_nil))) (pe_op op_sub (pe_op op_mod (pe_op op_fdiv (pe_fn G_cell_at (hr.mono (by decide)) T.g_cell_at pass0 (pa_cons (pv 0) (pa_cons pe_int pa_nil))) pe_int) pe_int) pe_int) (fun _ _ => rfl)) pa_nil))))
        (pss_nil))
      (pss_cons (ps_expr (pe_fn G_filled (hr.mono (by decide)) T.g_filled pass0 (pa_cons (pv 1) (pa_cons (pe_slice (r := rSlL K) sl_list (pv 0) (po_some pe_int) (po_some pe_int)) pa_nil))))
      (pss_cons (ps_set (i := 2) sc_law.nd rfl (Or.inl rfl) (pe_op op_add pe_int (pe_op op_mod (pe_fn G_cell_at (hr.mono (by decide)) T.g_cell_at pass0 (pa_cons (pv 0) (pa_cons pe_int pa_nil))) pe_int)))
      (pss_cons (ps_set (i := 3) sc_law.nd rfl (Or.inl rfl) (pe_sliceStep (pe_mt0 T.clS T.mS_names GS_names (hr.mono (by decide)) pass0 (pv 1)) (pv 2)))
      (pss_cons (ps_set (i := 4) sc_law.nd rfl (Or.inl rfl) (pe_fn G_closed (hr.mono (by decide)) T.g_closed pass0 (pa_cons (pv 1) (pa_cons (pv 3) pa_nil))))
      (pss_cons (ps_set (i := 5) sc_law.nd rfl (Or.inl rfl) (pe_fn G_plan (hr.mono (by decide)) T.g_plan pass0 (pa_cons (pv 1) (pa_cons (pv 4) pa_nil))))
      (pss_cons (ps_set (i := 6) sc_law.nd rfl (Or.inl rfl) (pe_callTy (r := rListK K) call_list_of rfl T.n_list (by decide +kernel) (pa_cons (pv 3) pa_nil)))
      (pss_cons (ps_set (i := 7) sc_law.nd rfl (Or.inl rfl) (pe_mk T.mkP GP_init_S (hr.mono (by decide)) T.g_Pack passL (pa_cons (pv 1) (pa_cons (pv 6) pa_nil))))
      (pss_cons (ps_if (pt_cmpR (r := rNeD K) (op_neD hr.units) (pv 6) (pv 3) (nomark _))
        (pss_one (ps_ret pe_bl))
        (pss_nil))
      (pss_cons (ps_expr (pe_bm PySem.F.plainAttrs_list PySem.F.slot_list_append PySem.F.type_list_append mt_append (pv 6) (pa_cons pe_non pa_nil)))
      (pss_cons (ps_set (i := 8) sc_law.nd rfl (Or.inl rfl) (pe_mk T.mkP GP_init_P (hr.mono (by decide)) T.g_Pack passL (pa_cons (pv 7) (pa_cons (pe_callTy (r := rListK K) call_list_of rfl T.n_list (by decide +kernel) (pa_cons (pv 3) pa_nil)) pa_nil))))
      (pss_cons (ps_set (i := 2) sc_law.nd rfl (Or.inl rfl) (pe_mk T.mkP GP_init_S (hr.mono (by decide)) T.g_Pack passL (pa_cons (pv 1) (pa_cons (pe_mt0 T.clS T.mS_names GS_names (hr.mono (by decide)) pass0 (pv 1)) pa_nil))))
      (pss_cons (ps_set (i := 9) sc_law.nd rfl (Or.inl rfl) (pe_mk T.mkP GP_init_P (hr.mono (by decide)) T.g_Pack passL (pa_cons (pv 2) (pa_cons (pe_callTy (r := rListK K) call_list_of rfl T.n_list (by decide +kernel) (pa_cons (pv 3) pa_nil)) pa_nil))))
      (pss_cons (ps_if (PW.pt (pw_or (pt_cmpR (r := rNeD K) (op_neD hr.units) (pe_fn G_reached_P (hr.mono (by decide)) T.g_reached passL (pa_cons (pv 7) (pa_cons (pe_callTy (r := rListK K) call_list_of rfl T.n_list (by decide +kernel) (pa_cons (pv 3) pa_nil)) pa_nil))) (pv 4) (nomark _)) (pw_or1 (pt_cmpR (r := rNeD K) (op_neD hr.units) (pe_fn G_reached_P (hr.mono (by decide)) T.g_reached passL (pa_cons (pv 2) (pa_cons (pe_callTy (r := rListK K) call_list_of rfl T.n_list (by decide +kernel) (pa_cons (pv 3) pa_nil)) pa_nil))) (pv 4) (nomark _)))))
        (pss_one (ps_ret pe_bl))
        (pss_nil))
      (pss_cons (ps_set (i := 10) sc_law.nd rfl (Or.inl rfl) (pe_ix (r := rIxL K) ix_list (pe_lst (pa_cons pe_non (pa_cons pe_str (pa_cons pe_str (pa_cons pe_int (pa_cons (pe_lst (pa_cons pe_str pa_nil)) pa_nil)))))) (pe_op op_mod (pe_fn G_cell_at (hr.mono (by decide)) T.g_cell_at pass0 (pa_cons (pv 0) (pa_cons pe_int pa_nil))) pe_int) (fun _ _ => rfl)))
      (pss_cons (ps_set (i := 11) sc_law.nd rfl (Or.inl rfl) (pe_op op_mod (pe_fn G_cell_at (hr.mono (by decide)) T.g_cell_at pass0 (pa_cons (pv 0) (pa_cons pe_int pa_nil))) (pe_op op_add (pe_callB (r := rLen K) call_len rfl T.n_len (by decide +kernel) (pa_cons (pv 3) pa_nil)) pe_int)))
      (pss_cons (ps_if (pt_not (pt_val (pe_fn G_refused_S (hr.mono (by decide)) T.g_refused pass0 (pa_cons (pv 1) (pa_cons (pe_op op_cat (pe_op op_cat (pe_slice (r := rSlL K) sl_list (pv 3) po_none (po_some (pv 11))) (pe_lst (pa_cons (pv 10) pa_nil))) (pe_slice (r := rSlL K) sl_list (pv 3) (po_some (pv 11)) po_none)) pa_nil)))))
        (pss_one (ps_ret pe_bl))
        (pss_nil))
      (pss_cons (ps_set (i := 12) sc_law.nd rfl (Or.inl rfl) (pe_mt T.clS T.mS_put GS_put (hr.mono (by decide)) pass0 (pv 1) (pa_cons (pe_tup (pa_cons pe_str (pa_cons (pe_tup (pa_cons pe_str (pa_cons pe_str (pa_cons pe_str pa_nil)))) pa_nil))) pa_nil)))
      (pss_cons (ps_set (i := 13) sc_law.nd rfl (Or.inl rfl) (pe_mk T.mkP GP_init_S (hr.mono (by decide)) T.g_Pack passL (pa_cons (pv 1) (pa_cons (pe_lst pa_nil) pa_nil))))
      (pss_cons (ps_if (PW.pt (pw_or (pt_not (pt_val (pe_fn G_refused_P (hr.mono (by decide)) T.g_refused pass0 (pa_cons (pv 7) (pa_cons (pe_lst (pa_cons (pv 12) pa_nil)) pa_nil))))) (pw_or (pt_cmpR (r := rNeD K) (op_neD hr.units) (pe_mt0 T.clP T.mP_names GP_names (hr.mono (by decide)) pass0 (pv 13)) (pe_lst pa_nil) (nomark _)) (pw_or (pt_not (pt_val (pe_fn G_whole (hr.mono (by decide)) T.g_whole pass0 (pa_cons (pe_mt0 T.clP T.mP_weight GP_weight (hr.mono (by decide)) pass0 (pv 13)) (pa_cons pe_int pa_nil))))) (pw_or1 (pt_val (pe_mt T.clP T.mP_has GP_has (hr.mono (by decide)) pass0 (pv 13) (pa_cons (pv 12) pa_nil))))))))
        (pss_one (ps_ret pe_bl))
        (pss_nil))
      (pss_cons (ps_for PassesOwn.never rfl (pi_tup (pe_tup (pa_cons (pv 7) (pa_cons (pv 8) (pa_cons (pv 9) (pa_cons (pv 7) pa_nil)))))) (pg_name (i := 14) sc_law.nd rfl (Or.inl rfl))
        (pss_cons (ps_if (pt_not (pt_val (pe_fn G_like (hr.mono (by decide)) T.g_like pass0 (pa_cons (pv 14) (pa_cons (pv 4) (pa_cons (pv 5) (pa_cons (pe_op op_fdiv (pe_fn G_cell_at (hr.mono (by decide)) T.g_cell_at pass0 (pa_cons (pv 0) (pa_cons pe_int pa_nil))) pe_int) pa_nil)))))))
          (pss_one (ps_ret pe_bl))
          (pss_nil))
        (pss_one (ps_for PassesOwn.never rfl (pi_list (pe_op op_cat (pe_lst (pa_cons (pv 12) (pa_cons pe_non (pa_cons pe_int (pa_cons (pe_lst (pa_cons pe_str pa_nil)) (pa_cons pe_str pa_nil)))))) (pe_mt0 T.clS T.mS_names GS_names (hr.mono (by decide)) pass0 (pv 1)))) (pg_name (i := 15) sc_law.nd rfl (Or.inl rfl))
          (pss_one (ps_if (PW.pt (pw_and (pt_cmpR (r := rNotInD K) (op_notInD (hu65 hr)) (pv 15) (pv 4) (by rfl)) (pw_and1 (pt_not (pt_val (pe_fn G_missed (hr.mono (by decide)) T.g_missed pass0 (pa_cons (pv 14) (pa_cons (pv 15) pa_nil))))))))
            (pss_one (ps_ret pe_bl))
            (pss_nil)))))))
      (pss_one (ps_ret pe_bl))))))))))))))))))))))))), ?_⟩
    refine fun p dx hp0 hdx0 ndp => ?_
    refine ⟨p, dx, H, .non, [], rfl, upd_same, Same.new (same_new hdx0) (by rw [upd_ne (Ne.symm ndp)]; exact hp0), hp0, .inl ⟨rfl, rfl⟩, fun o t g H1 ho ht hg s1 sh1 sh0 => ⟨rfl, ?_⟩⟩
    have sq1 := sql_same s1 sq0
    refine ⟨_, rfl, _, rfl, a, 1, ns, rfl, sq1, fun i1 => ?_⟩
    refine ⟨p, o, t, g, i1, [], H1, rfl, Same.refl _, Tups.refl _, sh1, by decide, fun hsA HA LA GA => ?_⟩
    have shA1 := (GA.sh 1 sh1).mono GA.sub
    have shA0 := (GA.sh 0 (sh0 rfl)).mono GA.sub
    have sqA := sql_but sh1 GA.but sq1
    have lA := GA.len
    have lA' : LA.length ≤ 18 := by show LA.length ≤ 0 + 18; exact lA
    refine ⟨_, rfl, _, rfl, _, rfl, _, rfl, a, _, rfl, sqA, fun c hc => ?_⟩
    obtain ⟨ms, ems, lms⟩ := cut_ints ns 2 6
    have ems' : cutV (ns.map V.int) (some 2) (some 6) = ms.map V.int := ems
    rw [ems']
    have sc := same_new (o := .lst (ms.map V.int)) hc
    refine ⟨p, c, o, t, g, LA, ms, _, rfl, Same.refl _, Tups.refl _, shA1.mono sc, upd_same, lms, by omega, fun vB hsB HB LB GB => ?_⟩
    have shB1 := (GB.sh 1 (shA1.mono sc)).mono GB.sub
    have shB0 := (GB.sh 0 (shA0.mono sc)).mono GB.sub
    have l5B : ∀ e ∈ LB, Lf5 e.2 := fun e he => (GB.new e he).elim (fun h => (GA.new e h).elim (fun z => nomatch z) id) id
    have lB : LB.length ≤ 58 := by have := GB.len; omega
    have sqB := sql_but (shA1.mono sc) GB.but (sql_same sc sqA)
    refine ⟨_, rfl, a, 0, ns, rfl, sqB, fun i0 => ⟨_, _, rfl, rfl, cd, _, _, rfl, rfl, p0, _, _, rfl, rfl, _, rfl, ?_⟩⟩
    by_cases cc : i0 / 2 % 3 > 0
    · refine itep (decide_eq_true cc) ?_
      have sbB : StB P w (He.ga K "Pack") (He.ga K "Shelf") 1 false HB p LB := ⟨o, t, g, shB1⟩
      obtain ⟨dxB, fsB, j1, j2, j3, j4⟩ := st_ins sbB
      have lenB : (nms LB).length ≤ 58 := by unfold nms; rw [List.length_map]; exact lB
      refine ⟨_, rfl, _, rfl, _, rfl, p, dxB, fsB, rfl, j1, j4, p, LB, rfl, sbB, fun l HC hl sC hlC => ?_⟩
      refine fun pk dxk hpk hdxk nk => ?_
      refine ⟨pk, p, l, dxk, HC, LB, _, rfl, upd_same, Same.new (same_new hdxk) (by rw [upd_ne (Ne.symm nk)]; exact hpk), hpk, sbB.mono sC, hlC, vok_strs, by rw [List.length_map]; omega, .inl ⟨nms LB, rfl, fun z h => h, fun wd sd HD hwd hsd sD pw => ⟨rfl, ?_⟩⟩⟩
      rw [sub_all] at pw
      have pw' := PackW.mono delP_same pw
      have sBD := Same.trans sC sD
      refine ⟨by show 2 ≤ sizeLine; decide, fun u hu => ?_⟩
      have sDu := same_new (o := .lst [V.ref p, V.ref pk]) hu
      have sBE := Same.trans sBD sDu
      refine ⟨_, rfl, a, 0, ns, rfl, sql_same sBE sqB, fun i2 => ?_⟩
      obtain ⟨v, hat, hv⟩ := two_of (a := V.ref p) (b := V.ref pk) (i := i2 / 2)
      refine ⟨_, _, rfl, rfl, cd, _, _, rfl, rfl, p0, _, _, rfl, rfl, u, _, _, v, rfl, rfl, SqL.of upd_same, hat, ?_⟩
      obtain ⟨HE, eHE⟩ : ∃ HE, HE = upd HD u (.lst [V.ref p, V.ref pk]) := ⟨_, rfl⟩
      rw [← eHE] at sBE sDu ⊢
      have st0 : ∃ bs, v = .ref bs ∧ StAt P w (He.ga K "Pack") (He.ga K "Shelf") 0 HE bs LB := by
        rcases hv with e | e
        · exact ⟨p, e, (shB0.mono sBE).st⟩
        · exact ⟨pk, e, .pack (pw'.mono sDu).at⟩
      obtain ⟨bs, ev0, st0⟩ := st0
      have nmB := shB1.nm
      refine fun p dx2 hp2 hdx2 n2 => ?_
      refine ⟨p, dx2, HE, v, LB, rfl, upd_same, Same.new (same_new hdx2) (by rw [upd_ne (Ne.symm n2)]; exact hp2), hp2, .inr ⟨bs, ev0, st0, nmB⟩, fun o t g Hq ho ht hg sq' sh _ => ⟨rfl, ?_⟩⟩
      obtain ⟨L, eL⟩ : ∃ L, L = LB := ⟨_, rfl⟩
      rw [← eL] at sh
      have l5 : ∀ e ∈ L, Lf5 e.2 := by rw [eL]; exact l5B
      have lL : L.length ≤ 58 := by rw [eL]; exact lB
      have sq : SqL K Hq a (ns.map V.int) := sql_same (Same.trans sBE sq') sqB
      refine ⟨_, rfl, _, rfl, _, rfl, _, rfl, a, _, rfl, sq, fun c hc => ?_⟩
      obtain ⟨ms2, ems2, lms2⟩ := cut_ints ns 6 9
      have ems2' : cutV (ns.map V.int) (some 6) (some 9) = ms2.map V.int := ems2
      rw [ems2']
      have sc := same_new (o := .lst (ms2.map V.int)) hc
      refine ⟨p, c, o, t, g, L, ms2, _, rfl, Same.refl _, Tups.refl _, sh.mono sc, upd_same, by omega, by omega, fun v4 hs4 H4 L4 G4 => ?_⟩
      have shc := sh.mono sc
      have sh4 := (G4.sh 1 shc).mono G4.sub
      have l54 : ∀ e ∈ L4, Lf5 e.2 := fun e he => (G4.new e he).elim (l5 e) id
      have lL4 : L4.length ≤ 88 := by have := G4.len; omega
      have sq4 := sql_but shc G4.but (sql_same sc sq)
      have sb4 : StB P w (He.ga K "Pack") (He.ga K "Shelf") 1 false H4 p L4 := ⟨o, t, g, sh4⟩
      obtain ⟨dx4, fs4, i1, i2, i3, i4⟩ := st_ins sb4
      have ok4 := sb4.ok
      have lenN : (nms L4).length ≤ 88 := by unfold nms; rw [List.length_map]; exact lL4
      have nm4 := sh4.nm
      refine ⟨_, rfl, a, 0, ns, rfl, sq4, fun j0 => ⟨_, _, rfl, rfl, p0, _, _, rfl, rfl, ?_⟩⟩
      obtain ⟨E, eE⟩ : ∃ E : Int, E = 1 + j0 % 2 := ⟨_, rfl⟩
      have nE : E ≠ 0 := by omega
      change Ends.nx _ [some (.ref a), some (.ref p), some (.int (1 + j0 % 2)), none, none, none, none, none, none, none, none, none, none, none, none, none] _
      rw [← eE]
      refine ⟨_, rfl, p, dx4, fs4, rfl, i1, i4, p, L4, rfl, sb4, fun l H5 hl s5 hl5 => ?_⟩
      refine ⟨_, rfl, _, rfl, l, _, E, rfl, rfl, nE, SqL.of hl5, fun rl ys hrl hys hyl => ?_⟩
      obtain ⟨R, eR, hR⟩ := strs_of hys
      subst eR
      have lR : R.length ≤ 88 := by rw [List.length_map, List.length_map] at hyl; omega
      have s6 := Same.new (o := .lst (R.map V.str)) s5 hrl
      refine ⟨_, rfl, _, rfl, p, rl, L4, R, rfl, sb4.mono s6, upd_same, hR, by omega, fun nl H7 hnl s7 hnl7 => ?_⟩
      obtain ⟨M, eM⟩ : ∃ M, M = sub L4 R := ⟨_, rfl⟩
      rw [← eM] at hnl7
      have okM : StOk M := by rw [eM]; exact ok4.sub R
      have hRM : ∀ z ∈ R, z ∈ nms M := by rw [eM]; exact sub_names hR
      have eMM : sub M R = M := by rw [eM]; exact sub_sub L4 R
      have subM : ∀ e ∈ M, e ∈ L4 := fun e he => by rw [eM] at he; exact (mem_sub.mp he).1
      have lowM : ∀ z ∈ nms M, PyData.strOk z = true := fun z hz => by obtain ⟨t, m⟩ := mem_nms hz; exact nm_low nm4 (nms_mem (subM _ m))
      have lowR : ∀ z ∈ R, PyData.strOk z = true := fun z hz => nm_low nm4 (hR z hz)
      have s47 := Same.trans s6 s7
      have rl7 := s7 _ _ (show upd H5 rl (.lst (R.map V.str)) rl = _ from upd_same)
      refine ⟨_, rfl, _, rfl, p, nl, L4, M, rfl, sb4.mono s47, hnl7, subM, okM, fun pa fd H8 hfd s8 pw8 => ?_⟩
      have s48 := Same.trans s47 s8
      have rl8 := s8 _ _ rl7
      have nl8 := s8 _ _ hnl7
      have sin4 := sh_in sh4
      have fdo : fd ≠ o ∧ fd ≠ g := ⟨fun z => sin4 o (.inl rfl) (L2.Same.free s47 (by rw [← z]; exact hfd)), fun z => sin4 g (.inr (.inr rfl)) (L2.Same.free s47 (by rw [← z]; exact hfd))⟩
      refine ⟨_, rfl, rl, _, rfl, .inl (SqL.of rl8), fun hl9 hhl => ?_⟩
      have s89 := same_new (o := .lst (R.map V.str)) hhl
      obtain ⟨H9, eH9⟩ : ∃ H9, H9 = upd H8 hl9 (.lst (R.map V.str)) := ⟨_, rfl⟩
      have hh9 : H9 hl9 = some (.lst (R.map V.str)) := by rw [eH9]; exact upd_same
      rw [← eH9] at s89
      change Ends.nx _ _ (upd H8 hl9 (.lst (R.map V.str)))
      rw [← eH9]
      have s49 := Same.trans s48 s89
      refine ⟨_, rfl, _, rfl, fun pk dxk hpk hdxk nk => ?_⟩
      refine ⟨pk, p, hl9, dxk, H9, L4, _, rfl, upd_same, Same.new (same_new hdxk) (by rw [upd_ne (Ne.symm nk)]; exact hpk), hpk, sb4.mono s49, hh9, vok_strs, by rw [List.length_map]; omega, .inl ⟨R, rfl, hR, fun wk sk HA hwk hsk sA pwA => ⟨rfl, ?_⟩⟩⟩
      rw [← eM] at pwA
      have hhA := sA _ _ hh9
      have s8A := Same.trans s89 sA
      refine ⟨_, rfl, _, rfl, .list (R.map .str), .list (R.map .str), dp_strs hhA, dp_strs (s8A _ _ rl8), shaped_strs lowR, shaped_strs lowR, _, rfl, ?_⟩
      rw [eqv_strs, decide_eq_true rfl]
      refine ⟨_, rfl, .inl ⟨rfl, _, SqL.of hhA⟩, hl9, _, _, rfl, rfl, hhA, lt_line (by rw [List.length_map]; omega), ?_⟩
      obtain ⟨HB, eHB⟩ : ∃ HB, HB = upd HA hl9 (.lst (R.map V.str ++ [V.non])) := ⟨_, rfl⟩
      have s8B : Same H8 HB := by rw [eHB]; exact Same.mut s8A hhl
      have pwB : PackW (He.ga K "Pack") HB pk wk sk M := by
        have e : delP HB (fun c => ∃ xs, H9 c = some (.lst xs)) = delP HA (fun c => ∃ xs, H9 c = some (.lst xs)) := by rw [eHB]; exact delP_upd_self ⟨_, hh9⟩
        exact PackW.mono delP_same (by rw [e]; exact pwA)
      change Ends.nx _ _ (upd HA hl9 (.lst (R.map V.str ++ [V.non])))
      rw [← eHB]
      have s4B := Same.trans s48 s8B
      have wko : ∀ {x : Addr} {Hx : Hp}, Same H4 Hx → Hx x = none → x ≠ o ∧ x ≠ g := fun s h => ⟨fun z => sin4 o (.inl rfl) (L2.Same.free s (by rw [← z]; exact h)), fun z => sin4 g (.inr (.inr rfl)) (L2.Same.free s (by rw [← z]; exact h))⟩
      -- again
      refine ⟨_, rfl, _, rfl, rl, _, rfl, .inl (SqL.of (s8B _ _ rl8)), fun l1 hl1 => ?_⟩
      have sB1 := same_new (o := .lst (R.map V.str)) hl1
      obtain ⟨HC, eHC⟩ : ∃ HC, HC = upd HB l1 (.lst (R.map V.str)) := ⟨_, rfl⟩
      have hl1C : HC l1 = some (.lst (R.map V.str)) := by rw [eHC]; exact upd_same
      rw [← eHC] at sB1 ⊢
      refine fun ag dxa hag hdxa na => ?_
      have pwC := pwB.mono sB1
      have stC : StB P w (He.ga K "Pack") (He.ga K "Shelf") 1 true HC pk M := pwC.at
      refine ⟨ag, pk, l1, dxa, HC, M, _, rfl, upd_same, Same.new (same_new hdxa) (by rw [upd_ne (Ne.symm na)]; exact hag), hag, stC, hl1C, vok_strs, by rw [List.length_map]; omega, .inl ⟨R, rfl, hRM, fun wa sa HD hwa hsa sD pwD => ⟨rfl, ?_⟩⟩⟩
      rw [eMM] at pwD
      have pwD' := PackW.mono delP_same pwD
      have sBD := Same.trans sB1 sD
      have s4D := Same.trans s4B sBD
      -- every
      refine ⟨_, rfl, _, rfl, p, dx4, fs4, rfl, s4D _ _ i1, i4, p, L4, rfl, sb4.mono s4D, fun l2 HE hl2 sE hl2E => ?_⟩
      refine fun ev dxe hev hdxe ne => ?_
      have s4E := Same.trans s4D sE
      refine ⟨ev, p, l2, dxe, HE, L4, _, rfl, upd_same, Same.new (same_new hdxe) (by rw [upd_ne (Ne.symm ne)]; exact hev), hev, sb4.mono s4E, hl2E, vok_strs, by rw [List.length_map]; omega, .inl ⟨nms L4, rfl, fun z h => h, fun we se HF hwe hse sF pwF => ⟨rfl, ?_⟩⟩⟩
      rw [sub_all] at pwF
      have pwF' := PackW.mono delP_same pwF
      have sBF := Same.trans sBD (Same.trans sE sF)
      have s4F := Same.trans s4B sBF
      have rlF := sBF _ _ (s8B _ _ rl8)
      -- thinned
      refine ⟨_, rfl, _, rfl, rl, _, rfl, .inl (SqL.of rlF), fun l3 hl3 => ?_⟩
      have sF3 := same_new (o := .lst (R.map V.str)) hl3
      obtain ⟨HG, eHG⟩ : ∃ HG, HG = upd HF l3 (.lst (R.map V.str)) := ⟨_, rfl⟩
      have hl3G : HG l3 = some (.lst (R.map V.str)) := by rw [eHG]; exact upd_same
      rw [← eHG] at sF3 ⊢
      refine fun tn dxt htn hdxt nt => ?_
      have stG : StB P w (He.ga K "Pack") (He.ga K "Shelf") 1 true HG ev L4 := (pwF'.mono sF3).at
      refine ⟨tn, ev, l3, dxt, HG, L4, _, rfl, upd_same, Same.new (same_new hdxt) (by rw [upd_ne (Ne.symm nt)]; exact htn), htn, stG, hl3G, vok_strs, by rw [List.length_map]; omega, .inl ⟨R, rfl, hR, fun wt st HI hwt hst sI pwI => ⟨rfl, ?_⟩⟩⟩
      rw [← eM] at pwI
      have pwI' := PackW.mono delP_same pwI
      have sFI := Same.trans sF3 sI
      have sBI := Same.trans sBF sFI
      have s4I := Same.trans s4B sBI
      have s8I := Same.trans s8B sBI
      -- reached
      refine ⟨_, rfl, _, rfl, rl, _, rfl, .inl (SqL.of (s8I _ _ rl8)), fun l4 hl4 => ?_⟩
      have sI4 := same_new (o := .lst (R.map V.str)) hl4
      refine ⟨pk, l4, M, _, rfl, ((pwB.mono sBI).mono sI4).at, upd_same, vok_strs, by rw [List.length_map]; omega, .inl ⟨R, rfl, hRM, fun l5' HJ hl5' sJ hJ => ?_⟩⟩
      rw [eMM] at hJ
      have s8J := Same.trans s8I (Same.trans sI4 sJ)
      refine ⟨_, rfl, .list ((nms M).map .str), .list ((nms M).map .str), dp_strs hJ, dp_strs (s8J _ _ nl8), shaped_strs lowM, shaped_strs lowM, _, rfl, ?_⟩
      rw [eqv_strs, decide_eq_true rfl]
      refine ⟨_, rfl, _, rfl, rl, _, rfl, .inl (SqL.of (s8J _ _ rl8)), fun l6 hl6 => ?_⟩
      have sJ6 := same_new (o := .lst (R.map V.str)) hl6
      have sIJ := Same.trans (Same.trans sI4 sJ) sJ6
      refine ⟨ev, l6, L4, _, rfl, ((pwF'.mono sFI).mono sIJ).at, upd_same, vok_strs, by rw [List.length_map]; omega, .inl ⟨R, rfl, hR, fun l7 HK hl7 sK hK => ?_⟩⟩
      rw [← eM] at hK
      have sIK := Same.trans sIJ sK
      have s8K := Same.trans s8I sIK
      refine ⟨_, rfl, .list ((nms M).map .str), .list ((nms M).map .str), dp_strs hK, dp_strs (s8K _ _ nl8), shaped_strs lowM, shaped_strs lowM, _, rfl, ?_⟩
      rw [eqv_strs, decide_eq_true rfl]
      have s4K := Same.trans s48 s8K
      -- odd
      refine ⟨by show 1 ≤ sizeLine; decide, fun la hla => ?_⟩
      have sK1 := same_new (o := .lst [V.str "a"]) hla
      refine ⟨by show 5 ≤ sizeLine; decide, fun lo hlo => ?_⟩
      have sK2 := Same.new (o := .lst [V.non, V.str "", V.str "L1.99", V.int 5, V.ref la]) sK1 hlo
      have sq5 := sql_same (Same.trans s4K sK2) sq4
      refine ⟨_, rfl, a, 1, ns, rfl, sq5, fun j1 => ?_⟩
      obtain ⟨ov, hov, hat⟩ := pick (xs := [V.non, V.str "", V.str "L1.99", V.int 5, V.ref la]) (i := j1 % 5) (Int.emod_nonneg _ (by decide)) (Int.emod_lt_of_pos _ (by decide))
      refine ⟨_, _, rfl, rfl, p0, lo, _, _, ov, rfl, rfl, SqL.of upd_same, hat, ?_⟩
      obtain ⟨HL, eHL⟩ : ∃ HL, HL = upd (upd HK la (.lst [V.str "a"])) lo (.lst [V.non, V.str "", V.str "L1.99", V.int 5, V.ref la]) := ⟨_, rfl⟩
      have laL : HL la = some (.lst [V.str "a"]) := by rw [eHL]; exact same_new hlo _ _ upd_same
      rw [← eHL] at sK2 sq5
      change Ends.nx _ _ (upd (upd HK la (.lst [V.str "a"])) lo (.lst [V.non, V.str "", V.str "L1.99", V.int 5, V.ref la]))
      rw [← eHL]
      have s4L := Same.trans s4K sK2
      have s8L := Same.trans s8K sK2
      have ovok : VOk HL ov ∧ hasV (nms L4) ov = false := by
        simp only [List.mem_cons, List.not_mem_nil, or_false] at hov
        rcases hov with rfl | rfl | rfl | rfl | rfl
        · exact ⟨trivial, rfl⟩
        · exact ⟨trivial, decide_eq_false (no_empty nm4)⟩
        · exact ⟨trivial, decide_eq_false (no_99 nm4 (by omega))⟩
        · exact ⟨trivial, rfl⟩
        · exact ⟨⟨_, laL⟩, rfl⟩
      -- at
      have rlL := s8L _ _ rl8
      refine ⟨_, rfl, a, 1, ns, rfl, sq5, fun j2 => ?_⟩
      refine ⟨_, rfl, _, _, rfl, .inl ⟨_, SqL.of rlL, rfl⟩, _, _, rfl, rfl, _, _, rfl, rfl, p0 (by omega), ?_⟩
      obtain ⟨A1, eA1⟩ : ∃ A1 : Nat, j2 % ((((R.map V.str).length : Nat) : Int) + 1) = ((A1 : Nat) : Int) := Int.eq_ofNat_of_zero_le (Int.emod_nonneg _ (by omega))
      have aR : A1 ≤ R.length := by
        have := Int.emod_lt_of_pos j2 (b := (((R.map V.str).length : Nat) : Int) + 1) (by omega)
        rw [eA1, List.length_map] at this
        omega
      change Ends.nx _ [some (.ref a), some (.ref p), some (.ref ev), some (.ref rl), some (.ref nl), some (.ref pa), some (.ref hl9), some (.ref pk), some (.ref ag), some (.ref tn), some ov, some (.int (j2 % ((((R.map V.str).length : Nat) : Int) + 1))), none, none, none, none] _
      rw [eA1]
      -- refused
      refine ⟨_, rfl, _, rfl, _, rfl, _, rfl, rl, _, rfl, SqL.of rlL, fun p1 hp1 => ?_⟩
      have q1 := same_new (o := .lst (cutV (R.map V.str) none (some ((A1 : Nat) : Int)))) hp1
      refine ⟨_, rfl, by show 1 ≤ sizeLine; decide, fun p2 hp2 => ?_⟩
      have q2 := Same.new (o := .lst [ov]) q1 hp2
      have n12 : p1 ≠ p2 := ne_of_none upd_same hp2
      refine ⟨p1, p2, _, _, rfl, rfl, by rw [upd_ne n12]; exact upd_same, upd_same, le_line (by rw [cut_take aR, List.length_map, List.length_take]; show _ + 1 ≤ _; omega), fun p3 hp3 => ?_⟩
      have q3 := Same.new (o := .lst (cutV (R.map V.str) none (some ((A1 : Nat) : Int)) ++ [ov])) q2 hp3
      refine ⟨_, rfl, _, rfl, _, rfl, rl, _, rfl, SqL.of (q3 _ _ rlL), fun p4 hp4 => ?_⟩
      have q4 := Same.new (o := .lst (cutV (R.map V.str) (some ((A1 : Nat) : Int)) none)) q3 hp4
      have n34 : p3 ≠ p4 := ne_of_none upd_same hp4
      refine ⟨p3, p4, _, _, rfl, rfl, by rw [upd_ne n34]; exact upd_same, upd_same, le_line (by rw [cut_take aR, cut_drop, List.length_append, List.length_map, List.length_map, List.length_take, List.length_drop]; show _ + 1 + _ ≤ _; omega), fun p5 hp5 => ?_⟩
      have q5 := Same.new (o := .lst (cutV (R.map V.str) none (some ((A1 : Nat) : Int)) ++ [ov] ++ cutV (R.map V.str) (some ((A1 : Nat) : Int)) none)) q4 hp5
      refine ⟨p, p5, L4, _, rfl, sb4.mono (Same.trans s4L q5), upd_same, fun v hv => ?_, ?_, ⟨ov, ?_, ovok.2⟩, fun HM sM => ?_⟩
      · rw [cut_take aR, cut_drop] at hv
        rcases List.mem_append.mp hv with z | z
        · rcases List.mem_append.mp z with z | z
          · exact vok_strs v z
          · rw [List.mem_singleton.mp z]; exact vok_same q5 ovok.1
        · exact vok_strs v z
      · rw [cut_take aR, cut_drop, List.length_append, List.length_append, List.length_map, List.length_map, List.length_take, List.length_drop]; show _ + 1 + _ ≤ _; omega
      · exact List.mem_append_left _ (List.mem_append_right _ (List.mem_singleton.mpr rfl))
      refine ⟨true, rfl, ?_⟩
      have sLM := Same.trans q5 sM
      have s4M := Same.trans s4L sLM
      have s8M := Same.trans s8L sLM
      have sIM := Same.trans sIK (Same.trans sK2 sLM)
      -- later
      obtain ⟨dxs, vbs, ip⟩ := sh_ins sh4
      refine ⟨_, rfl, p, dxs, _, rfl, s4M _ _ ip, sh_no, by show 3 ≤ sizeLine; decide, fun q hq => ?_⟩
      refine ⟨by show 2 ≤ sizeLine; decide, fun a2 ha2 => ?_⟩
      have sMN := Same.new (o := .tup [V.str "leaf", V.ref q]) (same_new (o := .tup [V.str "later", V.str "and", V.str "more"]) hq) ha2
      obtain ⟨HN, eHN⟩ : ∃ HN, HN = upd (upd HM q (.tup [V.str "later", V.str "and", V.str "more"])) a2 (.tup [V.str "leaf", V.ref q]) := ⟨_, rfl⟩
      have taN : ThAt HN a2 (.leaf ["later", "and", "more"]) := ⟨q, by rw [eHN]; exact upd_same, by rw [eHN]; exact same_new ha2 _ _ upd_same⟩
      rw [← eHN] at sMN ⊢
      have s4N := Same.trans s4M sMN
      have shN := sh4.mono s4N
      refine ⟨p, a2, o, t, g, L4, .leaf ["later", "and", "more"], HN, rfl, Same.refl _, Tups.refl _, shN, taN, ThOk.later, trivial, by omega, fun nm hsO HO LO GO mO => ?_⟩
      have shO := (GO.sh 1 shN).mono GO.sub
      have sbO : StB P w (He.ga K "Pack") (He.ga K "Shelf") 1 false HO p LO := ⟨o, t, g, shO⟩
      have okO := sbO.ok
      have nmO := shO.nm
      have lLO : LO.length ≤ 89 := by have := GO.len; omega
      have lenO : (nms LO).length ≤ 89 := by unfold nms; rw [List.length_map]; exact lLO
      have nnew : nm ∉ nms L4 := fun h => by
        obtain ⟨t', m'⟩ := mem_nms h
        have e := thing_uniq okO.nd (GO.mem _ m') mO
        rw [e] at m'
        exact not_later (l54 _ m')
      have nnM : nm ∉ nms M := fun h => by obtain ⟨t', m'⟩ := mem_nms h; exact nnew (nms_mem (subM _ m'))
      obtain ⟨dxO, fsO, k1, k2, k3, k4⟩ := st_ins sbO
      have lstO : ∀ {x : Addr} {xs : List V}, HN x = some (.lst xs) → HO x = some (.lst xs) := fun e => GO.lst (Same.refl _) shN e
      have tupO : Tups HN HO := sh_tups shN GO.but
      have s8N := Same.trans s8M sMN
      have rlO := lstO (s8N _ _ rl8)
      have nlO := lstO (s8N _ _ nl8)
      have planO : PlanW HO pa fd M := by
        obtain ⟨z1, z2⟩ := pw8.mono s8N
        refine ⟨tupO _ _ z1, GO.but _ _ ?_ z2⟩
        rintro (z | z | z)
        · exact fdo.1 z
        · have hin := sin4 t (.inr (.inl rfl))
          cases u : H4 t with
          | none => exact hin u
          | some v =>
            have : H7 fd = some v := by rw [z]; exact s47 _ _ u
            rw [hfd] at this; cases this
        · exact fdo.2 z
      have sqO := sql_but shN GO.but (sql_same s4N sq4)
      have packO : ∀ {q' wd' sd' : Addr} {M' : Cont} {Hx : Hp}, PackW (He.ga K "Pack") HN q' wd' sd' M' → Same H4 Hx → Hx wd' = none → Hx sd' = none → PackW (He.ga K "Pack") HO q' wd' sd' M' := fun k s h1 h2 =>
        k.but shN GO.but (wko s h1).1 (wko s h1).2 (wko s h2).1 (wko s h2).2
      have sIN := Same.trans sIM sMN
      have pkO := packO ((pwB.mono sBI).mono sIN) s49 hwk hsk
      have agO := packO ((pwD'.mono (Same.trans (Same.trans sE sF) sFI)).mono sIN) (Same.trans s4B sB1) hwa hsa
      have tnO := packO (pwI'.mono sIN) (Same.trans s4F sF3) hwt hst
      -- bare
      refine ⟨_, rfl, by show 0 ≤ sizeLine; decide, fun le hle => ?_⟩
      have sO1 := same_new (o := .lst []) hle
      obtain ⟨HP, eHP⟩ : ∃ HP, HP = upd HO le (.lst []) := ⟨_, rfl⟩
      have leP : HP le = some (.lst []) := by rw [eHP]; exact upd_same
      rw [← eHP] at sO1 ⊢
      refine fun br dxb hbr hdxb nb => ?_
      refine ⟨br, p, le, dxb, HP, LO, [], rfl, upd_same, Same.new (same_new hdxb) (by rw [upd_ne (Ne.symm nb)]; exact hbr), hbr, sbO.mono sO1, leP, fun _ h => (nomatch h), Nat.zero_le _, .inl ⟨[], rfl, fun _ h => (nomatch h), fun wb sb HQ hwb hsb sQ pwQ => ⟨rfl, ?_⟩⟩⟩
      rw [sub_none] at pwQ
      have pwQ' := PackW.mono delP_same pwQ
      have sOQ := Same.trans sO1 sQ
      -- if not refused(pack, [later]) or ..
      refine ⟨_, rfl, _, rfl, by show 1 ≤ sizeLine; decide, fun ln1 hln1 => ?_⟩
      have sQ1 := same_new (o := .lst [V.str nm]) hln1
      refine ⟨pk, ln1, M, _, rfl, ((pkO.mono sOQ).mono sQ1).at, upd_same, fun v hv => by rw [List.mem_singleton.mp hv]; trivial, by show 1 ≤ 2000; decide, ⟨_, List.mem_singleton.mpr rfl, decide_eq_false nnM⟩, fun HR sR => ?_⟩
      refine ⟨true, rfl, ?_⟩
      have sQR := Same.trans sQ1 sR
      have pwR := pwQ'.mono sQR
      obtain ⟨dbr, bo, bws, bss, br1, _⟩ := id pwR.1.ex
      refine ⟨_, rfl, br, dbr, _, rfl, br1, pk_no, br, wb, sb, _, _, rfl, pwR.1, fun lb hlb => ?_⟩
      have sR1 := same_new (o := .lst ((nms ([] : Cont)).map V.str)) hlb
      refine ⟨by show 0 ≤ sizeLine; decide, fun lz hlz => ?_⟩
      have sR2 := Same.new (o := .lst []) sR1 hlz
      have nbz : lb ≠ lz := ne_of_none upd_same hlz
      refine ⟨.list [], .list [], .lst (SqL.of (xs := []) (by rw [upd_ne nbz]; exact upd_same)) .nil, .lst (SqL.of upd_same) .nil, by decide +kernel, by decide +kernel, _, rfl, ?_⟩
      have pwR2 := pwR.mono sR2
      refine ⟨_, rfl, br, dbr, _, rfl, sR2 _ _ br1, pk_no, br, wb, sb, _, _, rfl, pwR2.1, plan_ok pwR2.2, fun HS sS => ?_⟩
      refine ⟨0, rfl, ?_⟩
      refine ⟨true, rfl, ?_⟩
      have pwS := pwR2.mono sS
      refine ⟨_, rfl, br, dbr, _, rfl, sS _ _ (sR2 _ _ br1), pk_no, _, rfl, br, wb, sb, _, _, _, rfl, pwS.1, (plan_ok pwS.2).nd, trivial, _, rfl, ?_⟩
      have sOS := Same.trans sOQ (Same.trans sQR (Same.trans sR2 sS))
      have dataN : ∀ z ∈ nms LO, PyData.strOk z = true := fun z hz => nm_low nmO hz
      -- the packs, one by one
      refine ⟨_, rfl, _, rfl, _, rfl, _, rfl, by show 4 ≤ sizeLine; decide, fun tq htq => ?_⟩
      have sS1 := same_new (o := .tup [V.ref pk, V.ref ag, V.ref tn, V.ref pk]) htq
      have sOT := Same.trans sOS sS1
      refine ⟨tq, rfl, ⟨_, SqT.of upd_same⟩, for_it walk_tup (fun i σ H' => ∃ (v14 v15 : Option V), σ = [some (.ref a), some (.ref p), some (.ref ev), some (.ref rl), some (.ref nl), some (.ref pa), some (.ref hl9), some (.ref pk), some (.ref ag), some (.ref tn), some ov, some (.int ((A1 : Nat) : Int)), some (.str nm), some (.ref br), v14, v15] ∧ Same (upd HS tq (.tup [V.ref pk, V.ref ag, V.ref tn, V.ref pk])) H') ⟨none, none, rfl, Same.refl _⟩ (fun _ _ _ _ ⟨_, _, _, q⟩ => SqT.of (q _ _ upd_same)) ?_ ?_⟩
      · rintro i x σ H1 H2 hi ⟨v14, v15, rfl, hs⟩ ⟨rfl, hx⟩
        have hxm := List.mem_of_getElem? hx
        have sO2 := Same.trans sOT hs
        obtain ⟨tq2, wd, sd, rfl, pwT⟩ : ∃ q' wd sd, x = .ref q' ∧ PackW (He.ga K "Pack") H2 q' wd sd M := by
          simp only [List.mem_cons, List.not_mem_nil, or_false] at hxm
          rcases hxm with rfl | rfl | rfl | rfl
          · exact ⟨pk, wk, sk, rfl, pkO.mono sO2⟩
          · exact ⟨ag, wa, sa, rfl, agO.mono sO2⟩
          · exact ⟨tn, wt, st, rfl, tnO.mono sO2⟩
          · exact ⟨pk, wk, sk, rfl, pkO.mono sO2⟩
        refine ⟨_, rfl, _, rfl, _, rfl, _, rfl, a, 0, ns, rfl, sql_same sO2 sqO, fun j3 => ?_⟩
        refine ⟨_, _, rfl, rfl, cd, tq2, wd, sd, nl, pa, M, _, rfl, pwT, sO2 _ _ nlO, ⟨fd, planO.mono sO2⟩, lowM, fun H3 s3 => ?_⟩
        refine ⟨true, rfl, ?_⟩
        refine ⟨_, rfl, by show 1 ≤ sizeLine; decide, fun la2 hla2 => ?_⟩
        have s31 := same_new (o := .lst [V.str "a"]) hla2
        refine ⟨by show 5 ≤ sizeLine; decide, fun lo2 hlo2 => ?_⟩
        have s32 := Same.new (o := .lst [V.str nm, V.non, V.int 5, V.ref la2, V.str ""]) s31 hlo2
        have sO3 := Same.trans sO2 (Same.trans s3 s32)
        refine ⟨_, rfl, p, dxO, fsO, rfl, sO3 _ _ k1, k4, p, LO, rfl, sbO.mono sO3, fun l8 H4' hl8 s4' hl84 => ?_⟩
        refine ⟨lo2, l8, _, _, rfl, rfl, s4' _ _ upd_same, hl84, le_line (by rw [List.length_map]; show 5 + _ ≤ _; omega), fun c3 hc3 => ?_⟩
        have s5' := Same.new (o := .lst ([V.str nm, V.non, V.int 5, V.ref la2, V.str ""] ++ (nms LO).map V.str)) s4' hc3
        have la3 : upd H4' c3 (.lst ([V.str nm, V.non, V.int 5, V.ref la2, V.str ""] ++ (nms LO).map V.str)) la2 = some (.lst [V.str "a"]) := s5' _ _ (same_new hlo2 _ _ upd_same)
        have s35 := Same.trans (Same.trans s3 s32) s5'
        refine ⟨c3, rfl, ⟨_, SqL.of upd_same⟩, for_it walk_list (fun k5 σ H' => ∃ (v15 : Option V), σ = [some (.ref a), some (.ref p), some (.ref ev), some (.ref rl), some (.ref nl), some (.ref pa), some (.ref hl9), some (.ref pk), some (.ref ag), some (.ref tn), some ov, some (.int ((A1 : Nat) : Int)), some (.str nm), some (.ref br), some (.ref tq2), v15] ∧ Same (upd H4' c3 (.lst ([V.str nm, V.non, V.int 5, V.ref la2, V.str ""] ++ (nms LO).map V.str))) H') ⟨v15, rfl, Same.refl _⟩ (fun _ _ _ _ ⟨_, _, q⟩ => SqL.of (q _ _ upd_same)) ?_ ?_⟩
        · rintro k5 y σ H6 H7' hk5 ⟨v15, rfl, h6⟩ ⟨rfl, hy⟩
          have hym := List.mem_of_getElem? hy
          have s26 := Same.trans s35 h6
          have laH := h6 _ _ la3
          have shape : (∃ z, y = .str z ∧ PyData.strOk z = true) ∨ y = .non ∨ (∃ i, y = .int i) ∨ ∃ a, y = .ref a ∧ H7' a = some (.lst [.str "a"]) := by
            rcases List.mem_append.mp hym with z | z
            · simp only [List.mem_cons, List.not_mem_nil, or_false] at z
              rcases z with rfl | rfl | rfl | rfl | rfl
              · exact .inl ⟨nm, rfl, nm_low nmO (nms_mem mO)⟩
              · exact .inr (.inl rfl)
              · exact .inr (.inr (.inl ⟨_, rfl⟩))
              · exact .inr (.inr (.inr ⟨_, rfl, laH⟩))
              · exact .inl ⟨_, rfl, by decide +kernel⟩
            · obtain ⟨n, hn, rfl⟩ := List.mem_map.mp z
              exact .inl ⟨n, rfl, dataN n hn⟩
          have vo : VOk H7' y := by
            rcases shape with ⟨z, rfl, _⟩ | rfl | ⟨i, rfl⟩ | ⟨a, rfl, ha⟩
            · trivial
            · trivial
            · trivial
            · exact ⟨_, ha⟩
          obtain ⟨d, dp, dsh, dany⟩ := data_of (K := K) (ns := nms M) shape
          refine ⟨_, rfl, _, rfl, d, _, dp, dp_strs (s26 _ _ (sO2 _ _ nlO)), dsh, shaped_strs lowM, _, rfl, ?_⟩
          rw [dany]
          cases ch : hasV (nms M) y with
          | true => exact ⟨_, rfl, h6⟩
          | false =>
            refine ⟨_, rfl, _, rfl, tq2, wd, sd, M, y, rfl, pwT.mono s26, vo, ch, ?_⟩
            exact ⟨true, rfl, _, rfl, h6⟩
        · rintro σ H6 ⟨v15, rfl, h6⟩
          exact ⟨_, _, rfl, Same.trans hs (Same.trans s35 h6)⟩
      · rintro σ H1 ⟨v14, v15, rfl, hs⟩
        exact k H1
    · refine iten (by simpa using cc) ?_
      obtain ⟨L, eL⟩ : ∃ L, L = LB := ⟨_, rfl⟩
      have sh := shB1
      rw [← eL] at sh
      have l5 : ∀ e ∈ L, Lf5 e.2 := by rw [eL]; exact l5B
      have lL : L.length ≤ 58 := by rw [eL]; exact lB
      have sq := sqB
      refine ⟨_, rfl, _, rfl, _, rfl, _, rfl, a, _, rfl, sq, fun c hc => ?_⟩
      obtain ⟨ms2, ems2, lms2⟩ := cut_ints ns 6 9
      have ems2' : cutV (ns.map V.int) (some 6) (some 9) = ms2.map V.int := ems2
      rw [ems2']
      have sc := same_new (o := .lst (ms2.map V.int)) hc
      refine ⟨p, c, o, t, g, L, ms2, _, rfl, Same.refl _, Tups.refl _, sh.mono sc, upd_same, by omega, by omega, fun v4 hs4 H4 L4 G4 => ?_⟩
      have shc := sh.mono sc
      have sh4 := (G4.sh 1 shc).mono G4.sub
      have l54 : ∀ e ∈ L4, Lf5 e.2 := fun e he => (G4.new e he).elim (l5 e) id
      have lL4 : L4.length ≤ 88 := by have := G4.len; omega
      have sq4 := sql_but shc G4.but (sql_same sc sq)
      have sb4 : StB P w (He.ga K "Pack") (He.ga K "Shelf") 1 false H4 p L4 := ⟨o, t, g, sh4⟩
      obtain ⟨dx4, fs4, i1, i2, i3, i4⟩ := st_ins sb4
      have ok4 := sb4.ok
      have lenN : (nms L4).length ≤ 88 := by unfold nms; rw [List.length_map]; exact lL4
      have nm4 := sh4.nm
      refine ⟨_, rfl, a, 0, ns, rfl, sq4, fun j0 => ⟨_, _, rfl, rfl, p0, _, _, rfl, rfl, ?_⟩⟩
      obtain ⟨E, eE⟩ : ∃ E : Int, E = 1 + j0 % 2 := ⟨_, rfl⟩
      have nE : E ≠ 0 := by omega
      change Ends.nx _ [some (.ref a), some (.ref p), some (.int (1 + j0 % 2)), none, none, none, none, none, none, none, none, none, none, none, none, none] _
      rw [← eE]
      refine ⟨_, rfl, p, dx4, fs4, rfl, i1, i4, p, L4, rfl, sb4, fun l H5 hl s5 hl5 => ?_⟩
      refine ⟨_, rfl, _, rfl, l, _, E, rfl, rfl, nE, SqL.of hl5, fun rl ys hrl hys hyl => ?_⟩
      obtain ⟨R, eR, hR⟩ := strs_of hys
      subst eR
      have lR : R.length ≤ 88 := by rw [List.length_map, List.length_map] at hyl; omega
      have s6 := Same.new (o := .lst (R.map V.str)) s5 hrl
      refine ⟨_, rfl, _, rfl, p, rl, L4, R, rfl, sb4.mono s6, upd_same, hR, by omega, fun nl H7 hnl s7 hnl7 => ?_⟩
      obtain ⟨M, eM⟩ : ∃ M, M = sub L4 R := ⟨_, rfl⟩
      rw [← eM] at hnl7
      have okM : StOk M := by rw [eM]; exact ok4.sub R
      have hRM : ∀ z ∈ R, z ∈ nms M := by rw [eM]; exact sub_names hR
      have eMM : sub M R = M := by rw [eM]; exact sub_sub L4 R
      have subM : ∀ e ∈ M, e ∈ L4 := fun e he => by rw [eM] at he; exact (mem_sub.mp he).1
      have lowM : ∀ z ∈ nms M, PyData.strOk z = true := fun z hz => by obtain ⟨t, m⟩ := mem_nms hz; exact nm_low nm4 (nms_mem (subM _ m))
      have lowR : ∀ z ∈ R, PyData.strOk z = true := fun z hz => nm_low nm4 (hR z hz)
      have s47 := Same.trans s6 s7
      have rl7 := s7 _ _ (show upd H5 rl (.lst (R.map V.str)) rl = _ from upd_same)
      refine ⟨_, rfl, _, rfl, p, nl, L4, M, rfl, sb4.mono s47, hnl7, subM, okM, fun pa fd H8 hfd s8 pw8 => ?_⟩
      have s48 := Same.trans s47 s8
      have rl8 := s8 _ _ rl7
      have nl8 := s8 _ _ hnl7
      have sin4 := sh_in sh4
      have fdo : fd ≠ o ∧ fd ≠ g := ⟨fun z => sin4 o (.inl rfl) (L2.Same.free s47 (by rw [← z]; exact hfd)), fun z => sin4 g (.inr (.inr rfl)) (L2.Same.free s47 (by rw [← z]; exact hfd))⟩
      refine ⟨_, rfl, rl, _, rfl, .inl (SqL.of rl8), fun hl9 hhl => ?_⟩
      have s89 := same_new (o := .lst (R.map V.str)) hhl
      obtain ⟨H9, eH9⟩ : ∃ H9, H9 = upd H8 hl9 (.lst (R.map V.str)) := ⟨_, rfl⟩
      have hh9 : H9 hl9 = some (.lst (R.map V.str)) := by rw [eH9]; exact upd_same
      rw [← eH9] at s89
      change Ends.nx _ _ (upd H8 hl9 (.lst (R.map V.str)))
      rw [← eH9]
      have s49 := Same.trans s48 s89
      refine ⟨_, rfl, _, rfl, fun pk dxk hpk hdxk nk => ?_⟩
      refine ⟨pk, p, hl9, dxk, H9, L4, _, rfl, upd_same, Same.new (same_new hdxk) (by rw [upd_ne (Ne.symm nk)]; exact hpk), hpk, sb4.mono s49, hh9, vok_strs, by rw [List.length_map]; omega, .inl ⟨R, rfl, hR, fun wk sk HA hwk hsk sA pwA => ⟨rfl, ?_⟩⟩⟩
      rw [← eM] at pwA
      have hhA := sA _ _ hh9
      have s8A := Same.trans s89 sA
      refine ⟨_, rfl, _, rfl, .list (R.map .str), .list (R.map .str), dp_strs hhA, dp_strs (s8A _ _ rl8), shaped_strs lowR, shaped_strs lowR, _, rfl, ?_⟩
      rw [eqv_strs, decide_eq_true rfl]
      refine ⟨_, rfl, .inl ⟨rfl, _, SqL.of hhA⟩, hl9, _, _, rfl, rfl, hhA, lt_line (by rw [List.length_map]; omega), ?_⟩
      obtain ⟨HB, eHB⟩ : ∃ HB, HB = upd HA hl9 (.lst (R.map V.str ++ [V.non])) := ⟨_, rfl⟩
      have s8B : Same H8 HB := by rw [eHB]; exact Same.mut s8A hhl
      have pwB : PackW (He.ga K "Pack") HB pk wk sk M := by
        have e : delP HB (fun c => ∃ xs, H9 c = some (.lst xs)) = delP HA (fun c => ∃ xs, H9 c = some (.lst xs)) := by rw [eHB]; exact delP_upd_self ⟨_, hh9⟩
        exact PackW.mono delP_same (by rw [e]; exact pwA)
      change Ends.nx _ _ (upd HA hl9 (.lst (R.map V.str ++ [V.non])))
      rw [← eHB]
      have s4B := Same.trans s48 s8B
      have wko : ∀ {x : Addr} {Hx : Hp}, Same H4 Hx → Hx x = none → x ≠ o ∧ x ≠ g := fun s h => ⟨fun z => sin4 o (.inl rfl) (L2.Same.free s (by rw [← z]; exact h)), fun z => sin4 g (.inr (.inr rfl)) (L2.Same.free s (by rw [← z]; exact h))⟩
      -- again
      refine ⟨_, rfl, _, rfl, rl, _, rfl, .inl (SqL.of (s8B _ _ rl8)), fun l1 hl1 => ?_⟩
      have sB1 := same_new (o := .lst (R.map V.str)) hl1
      obtain ⟨HC, eHC⟩ : ∃ HC, HC = upd HB l1 (.lst (R.map V.str)) := ⟨_, rfl⟩
      have hl1C : HC l1 = some (.lst (R.map V.str)) := by rw [eHC]; exact upd_same
      rw [← eHC] at sB1 ⊢
      refine fun ag dxa hag hdxa na => ?_
      have pwC := pwB.mono sB1
      have stC : StB P w (He.ga K "Pack") (He.ga K "Shelf") 1 true HC pk M := pwC.at
      refine ⟨ag, pk, l1, dxa, HC, M, _, rfl, upd_same, Same.new (same_new hdxa) (by rw [upd_ne (Ne.symm na)]; exact hag), hag, stC, hl1C, vok_strs, by rw [List.length_map]; omega, .inl ⟨R, rfl, hRM, fun wa sa HD hwa hsa sD pwD => ⟨rfl, ?_⟩⟩⟩
      rw [eMM] at pwD
      have pwD' := PackW.mono delP_same pwD
      have sBD := Same.trans sB1 sD
      have s4D := Same.trans s4B sBD
      -- every
      refine ⟨_, rfl, _, rfl, p, dx4, fs4, rfl, s4D _ _ i1, i4, p, L4, rfl, sb4.mono s4D, fun l2 HE hl2 sE hl2E => ?_⟩
      refine fun ev dxe hev hdxe ne => ?_
      have s4E := Same.trans s4D sE
      refine ⟨ev, p, l2, dxe, HE, L4, _, rfl, upd_same, Same.new (same_new hdxe) (by rw [upd_ne (Ne.symm ne)]; exact hev), hev, sb4.mono s4E, hl2E, vok_strs, by rw [List.length_map]; omega, .inl ⟨nms L4, rfl, fun z h => h, fun we se HF hwe hse sF pwF => ⟨rfl, ?_⟩⟩⟩
      rw [sub_all] at pwF
      have pwF' := PackW.mono delP_same pwF
      have sBF := Same.trans sBD (Same.trans sE sF)
      have s4F := Same.trans s4B sBF
      have rlF := sBF _ _ (s8B _ _ rl8)
      -- thinned
      refine ⟨_, rfl, _, rfl, rl, _, rfl, .inl (SqL.of rlF), fun l3 hl3 => ?_⟩
      have sF3 := same_new (o := .lst (R.map V.str)) hl3
      obtain ⟨HG, eHG⟩ : ∃ HG, HG = upd HF l3 (.lst (R.map V.str)) := ⟨_, rfl⟩
      have hl3G : HG l3 = some (.lst (R.map V.str)) := by rw [eHG]; exact upd_same
      rw [← eHG] at sF3 ⊢
      refine fun tn dxt htn hdxt nt => ?_
      have stG : StB P w (He.ga K "Pack") (He.ga K "Shelf") 1 true HG ev L4 := (pwF'.mono sF3).at
      refine ⟨tn, ev, l3, dxt, HG, L4, _, rfl, upd_same, Same.new (same_new hdxt) (by rw [upd_ne (Ne.symm nt)]; exact htn), htn, stG, hl3G, vok_strs, by rw [List.length_map]; omega, .inl ⟨R, rfl, hR, fun wt st HI hwt hst sI pwI => ⟨rfl, ?_⟩⟩⟩
      rw [← eM] at pwI
      have pwI' := PackW.mono delP_same pwI
      have sFI := Same.trans sF3 sI
      have sBI := Same.trans sBF sFI
      have s4I := Same.trans s4B sBI
      have s8I := Same.trans s8B sBI
      -- reached
      refine ⟨_, rfl, _, rfl, rl, _, rfl, .inl (SqL.of (s8I _ _ rl8)), fun l4 hl4 => ?_⟩
      have sI4 := same_new (o := .lst (R.map V.str)) hl4
      refine ⟨pk, l4, M, _, rfl, ((pwB.mono sBI).mono sI4).at, upd_same, vok_strs, by rw [List.length_map]; omega, .inl ⟨R, rfl, hRM, fun l5' HJ hl5' sJ hJ => ?_⟩⟩
      rw [eMM] at hJ
      have s8J := Same.trans s8I (Same.trans sI4 sJ)
      refine ⟨_, rfl, .list ((nms M).map .str), .list ((nms M).map .str), dp_strs hJ, dp_strs (s8J _ _ nl8), shaped_strs lowM, shaped_strs lowM, _, rfl, ?_⟩
      rw [eqv_strs, decide_eq_true rfl]
      refine ⟨_, rfl, _, rfl, rl, _, rfl, .inl (SqL.of (s8J _ _ rl8)), fun l6 hl6 => ?_⟩
      have sJ6 := same_new (o := .lst (R.map V.str)) hl6
      have sIJ := Same.trans (Same.trans sI4 sJ) sJ6
      refine ⟨ev, l6, L4, _, rfl, ((pwF'.mono sFI).mono sIJ).at, upd_same, vok_strs, by rw [List.length_map]; omega, .inl ⟨R, rfl, hR, fun l7 HK hl7 sK hK => ?_⟩⟩
      rw [← eM] at hK
      have sIK := Same.trans sIJ sK
      have s8K := Same.trans s8I sIK
      refine ⟨_, rfl, .list ((nms M).map .str), .list ((nms M).map .str), dp_strs hK, dp_strs (s8K _ _ nl8), shaped_strs lowM, shaped_strs lowM, _, rfl, ?_⟩
      rw [eqv_strs, decide_eq_true rfl]
      have s4K := Same.trans s48 s8K
      -- odd
      refine ⟨by show 1 ≤ sizeLine; decide, fun la hla => ?_⟩
      have sK1 := same_new (o := .lst [V.str "a"]) hla
      refine ⟨by show 5 ≤ sizeLine; decide, fun lo hlo => ?_⟩
      have sK2 := Same.new (o := .lst [V.non, V.str "", V.str "L1.99", V.int 5, V.ref la]) sK1 hlo
      have sq5 := sql_same (Same.trans s4K sK2) sq4
      refine ⟨_, rfl, a, 1, ns, rfl, sq5, fun j1 => ?_⟩
      obtain ⟨ov, hov, hat⟩ := pick (xs := [V.non, V.str "", V.str "L1.99", V.int 5, V.ref la]) (i := j1 % 5) (Int.emod_nonneg _ (by decide)) (Int.emod_lt_of_pos _ (by decide))
      refine ⟨_, _, rfl, rfl, p0, lo, _, _, ov, rfl, rfl, SqL.of upd_same, hat, ?_⟩
      obtain ⟨HL, eHL⟩ : ∃ HL, HL = upd (upd HK la (.lst [V.str "a"])) lo (.lst [V.non, V.str "", V.str "L1.99", V.int 5, V.ref la]) := ⟨_, rfl⟩
      have laL : HL la = some (.lst [V.str "a"]) := by rw [eHL]; exact same_new hlo _ _ upd_same
      rw [← eHL] at sK2 sq5
      change Ends.nx _ _ (upd (upd HK la (.lst [V.str "a"])) lo (.lst [V.non, V.str "", V.str "L1.99", V.int 5, V.ref la]))
      rw [← eHL]
      have s4L := Same.trans s4K sK2
      have s8L := Same.trans s8K sK2
      have ovok : VOk HL ov ∧ hasV (nms L4) ov = false := by
        simp only [List.mem_cons, List.not_mem_nil, or_false] at hov
        rcases hov with rfl | rfl | rfl | rfl | rfl
        · exact ⟨trivial, rfl⟩
        · exact ⟨trivial, decide_eq_false (no_empty nm4)⟩
        · exact ⟨trivial, decide_eq_false (no_99 nm4 (by omega))⟩
        · exact ⟨trivial, rfl⟩
        · exact ⟨⟨_, laL⟩, rfl⟩
      -- at
      have rlL := s8L _ _ rl8
      refine ⟨_, rfl, a, 1, ns, rfl, sq5, fun j2 => ?_⟩
      refine ⟨_, rfl, _, _, rfl, .inl ⟨_, SqL.of rlL, rfl⟩, _, _, rfl, rfl, _, _, rfl, rfl, p0 (by omega), ?_⟩
      obtain ⟨A1, eA1⟩ : ∃ A1 : Nat, j2 % ((((R.map V.str).length : Nat) : Int) + 1) = ((A1 : Nat) : Int) := Int.eq_ofNat_of_zero_le (Int.emod_nonneg _ (by omega))
      have aR : A1 ≤ R.length := by
        have := Int.emod_lt_of_pos j2 (b := (((R.map V.str).length : Nat) : Int) + 1) (by omega)
        rw [eA1, List.length_map] at this
        omega
      change Ends.nx _ [some (.ref a), some (.ref p), some (.ref ev), some (.ref rl), some (.ref nl), some (.ref pa), some (.ref hl9), some (.ref pk), some (.ref ag), some (.ref tn), some ov, some (.int (j2 % ((((R.map V.str).length : Nat) : Int) + 1))), none, none, none, none] _
      rw [eA1]
      -- refused
      refine ⟨_, rfl, _, rfl, _, rfl, _, rfl, rl, _, rfl, SqL.of rlL, fun p1 hp1 => ?_⟩
      have q1 := same_new (o := .lst (cutV (R.map V.str) none (some ((A1 : Nat) : Int)))) hp1
      refine ⟨_, rfl, by show 1 ≤ sizeLine; decide, fun p2 hp2 => ?_⟩
      have q2 := Same.new (o := .lst [ov]) q1 hp2
      have n12 : p1 ≠ p2 := ne_of_none upd_same hp2
      refine ⟨p1, p2, _, _, rfl, rfl, by rw [upd_ne n12]; exact upd_same, upd_same, le_line (by rw [cut_take aR, List.length_map, List.length_take]; show _ + 1 ≤ _; omega), fun p3 hp3 => ?_⟩
      have q3 := Same.new (o := .lst (cutV (R.map V.str) none (some ((A1 : Nat) : Int)) ++ [ov])) q2 hp3
      refine ⟨_, rfl, _, rfl, _, rfl, rl, _, rfl, SqL.of (q3 _ _ rlL), fun p4 hp4 => ?_⟩
      have q4 := Same.new (o := .lst (cutV (R.map V.str) (some ((A1 : Nat) : Int)) none)) q3 hp4
      have n34 : p3 ≠ p4 := ne_of_none upd_same hp4
      refine ⟨p3, p4, _, _, rfl, rfl, by rw [upd_ne n34]; exact upd_same, upd_same, le_line (by rw [cut_take aR, cut_drop, List.length_append, List.length_map, List.length_map, List.length_take, List.length_drop]; show _ + 1 + _ ≤ _; omega), fun p5 hp5 => ?_⟩
      have q5 := Same.new (o := .lst (cutV (R.map V.str) none (some ((A1 : Nat) : Int)) ++ [ov] ++ cutV (R.map V.str) (some ((A1 : Nat) : Int)) none)) q4 hp5
      refine ⟨p, p5, L4, _, rfl, sb4.mono (Same.trans s4L q5), upd_same, fun v hv => ?_, ?_, ⟨ov, ?_, ovok.2⟩, fun HM sM => ?_⟩
      · rw [cut_take aR, cut_drop] at hv
        rcases List.mem_append.mp hv with z | z
        · rcases List.mem_append.mp z with z | z
          · exact vok_strs v z
          · rw [List.mem_singleton.mp z]; exact vok_same q5 ovok.1
        · exact vok_strs v z
      · rw [cut_take aR, cut_drop, List.length_append, List.length_append, List.length_map, List.length_map, List.length_take, List.length_drop]; show _ + 1 + _ ≤ _; omega
      · exact List.mem_append_left _ (List.mem_append_right _ (List.mem_singleton.mpr rfl))
      refine ⟨true, rfl, ?_⟩
      have sLM := Same.trans q5 sM
      have s4M := Same.trans s4L sLM
      have s8M := Same.trans s8L sLM
      have sIM := Same.trans sIK (Same.trans sK2 sLM)
      -- later
      obtain ⟨dxs, vbs, ip⟩ := sh_ins sh4
      refine ⟨_, rfl, p, dxs, _, rfl, s4M _ _ ip, sh_no, by show 3 ≤ sizeLine; decide, fun q hq => ?_⟩
      refine ⟨by show 2 ≤ sizeLine; decide, fun a2 ha2 => ?_⟩
      have sMN := Same.new (o := .tup [V.str "leaf", V.ref q]) (same_new (o := .tup [V.str "later", V.str "and", V.str "more"]) hq) ha2
      obtain ⟨HN, eHN⟩ : ∃ HN, HN = upd (upd HM q (.tup [V.str "later", V.str "and", V.str "more"])) a2 (.tup [V.str "leaf", V.ref q]) := ⟨_, rfl⟩
      have taN : ThAt HN a2 (.leaf ["later", "and", "more"]) := ⟨q, by rw [eHN]; exact upd_same, by rw [eHN]; exact same_new ha2 _ _ upd_same⟩
      rw [← eHN] at sMN ⊢
      have s4N := Same.trans s4M sMN
      have shN := sh4.mono s4N
      refine ⟨p, a2, o, t, g, L4, .leaf ["later", "and", "more"], HN, rfl, Same.refl _, Tups.refl _, shN, taN, ThOk.later, trivial, by omega, fun nm hsO HO LO GO mO => ?_⟩
      have shO := (GO.sh 1 shN).mono GO.sub
      have sbO : StB P w (He.ga K "Pack") (He.ga K "Shelf") 1 false HO p LO := ⟨o, t, g, shO⟩
      have okO := sbO.ok
      have nmO := shO.nm
      have lLO : LO.length ≤ 89 := by have := GO.len; omega
      have lenO : (nms LO).length ≤ 89 := by unfold nms; rw [List.length_map]; exact lLO
      have nnew : nm ∉ nms L4 := fun h => by
        obtain ⟨t', m'⟩ := mem_nms h
        have e := thing_uniq okO.nd (GO.mem _ m') mO
        rw [e] at m'
        exact not_later (l54 _ m')
      have nnM : nm ∉ nms M := fun h => by obtain ⟨t', m'⟩ := mem_nms h; exact nnew (nms_mem (subM _ m'))
      obtain ⟨dxO, fsO, k1, k2, k3, k4⟩ := st_ins sbO
      have lstO : ∀ {x : Addr} {xs : List V}, HN x = some (.lst xs) → HO x = some (.lst xs) := fun e => GO.lst (Same.refl _) shN e
      have tupO : Tups HN HO := sh_tups shN GO.but
      have s8N := Same.trans s8M sMN
      have rlO := lstO (s8N _ _ rl8)
      have nlO := lstO (s8N _ _ nl8)
      have planO : PlanW HO pa fd M := by
        obtain ⟨z1, z2⟩ := pw8.mono s8N
        refine ⟨tupO _ _ z1, GO.but _ _ ?_ z2⟩
        rintro (z | z | z)
        · exact fdo.1 z
        · have hin := sin4 t (.inr (.inl rfl))
          cases u : H4 t with
          | none => exact hin u
          | some v =>
            have : H7 fd = some v := by rw [z]; exact s47 _ _ u
            rw [hfd] at this; cases this
        · exact fdo.2 z
      have sqO := sql_but shN GO.but (sql_same s4N sq4)
      have packO : ∀ {q' wd' sd' : Addr} {M' : Cont} {Hx : Hp}, PackW (He.ga K "Pack") HN q' wd' sd' M' → Same H4 Hx → Hx wd' = none → Hx sd' = none → PackW (He.ga K "Pack") HO q' wd' sd' M' := fun k s h1 h2 =>
        k.but shN GO.but (wko s h1).1 (wko s h1).2 (wko s h2).1 (wko s h2).2
      have sIN := Same.trans sIM sMN
      have pkO := packO ((pwB.mono sBI).mono sIN) s49 hwk hsk
      have agO := packO ((pwD'.mono (Same.trans (Same.trans sE sF) sFI)).mono sIN) (Same.trans s4B sB1) hwa hsa
      have tnO := packO (pwI'.mono sIN) (Same.trans s4F sF3) hwt hst
      -- bare
      refine ⟨_, rfl, by show 0 ≤ sizeLine; decide, fun le hle => ?_⟩
      have sO1 := same_new (o := .lst []) hle
      obtain ⟨HP, eHP⟩ : ∃ HP, HP = upd HO le (.lst []) := ⟨_, rfl⟩
      have leP : HP le = some (.lst []) := by rw [eHP]; exact upd_same
      rw [← eHP] at sO1 ⊢
      refine fun br dxb hbr hdxb nb => ?_
      refine ⟨br, p, le, dxb, HP, LO, [], rfl, upd_same, Same.new (same_new hdxb) (by rw [upd_ne (Ne.symm nb)]; exact hbr), hbr, sbO.mono sO1, leP, fun _ h => (nomatch h), Nat.zero_le _, .inl ⟨[], rfl, fun _ h => (nomatch h), fun wb sb HQ hwb hsb sQ pwQ => ⟨rfl, ?_⟩⟩⟩
      rw [sub_none] at pwQ
      have pwQ' := PackW.mono delP_same pwQ
      have sOQ := Same.trans sO1 sQ
      -- if not refused(pack, [later]) or ..
      refine ⟨_, rfl, _, rfl, by show 1 ≤ sizeLine; decide, fun ln1 hln1 => ?_⟩
      have sQ1 := same_new (o := .lst [V.str nm]) hln1
      refine ⟨pk, ln1, M, _, rfl, ((pkO.mono sOQ).mono sQ1).at, upd_same, fun v hv => by rw [List.mem_singleton.mp hv]; trivial, by show 1 ≤ 2000; decide, ⟨_, List.mem_singleton.mpr rfl, decide_eq_false nnM⟩, fun HR sR => ?_⟩
      refine ⟨true, rfl, ?_⟩
      have sQR := Same.trans sQ1 sR
      have pwR := pwQ'.mono sQR
      obtain ⟨dbr, bo, bws, bss, br1, _⟩ := id pwR.1.ex
      refine ⟨_, rfl, br, dbr, _, rfl, br1, pk_no, br, wb, sb, _, _, rfl, pwR.1, fun lb hlb => ?_⟩
      have sR1 := same_new (o := .lst ((nms ([] : Cont)).map V.str)) hlb
      refine ⟨by show 0 ≤ sizeLine; decide, fun lz hlz => ?_⟩
      have sR2 := Same.new (o := .lst []) sR1 hlz
      have nbz : lb ≠ lz := ne_of_none upd_same hlz
      refine ⟨.list [], .list [], .lst (SqL.of (xs := []) (by rw [upd_ne nbz]; exact upd_same)) .nil, .lst (SqL.of upd_same) .nil, by decide +kernel, by decide +kernel, _, rfl, ?_⟩
      have pwR2 := pwR.mono sR2
      refine ⟨_, rfl, br, dbr, _, rfl, sR2 _ _ br1, pk_no, br, wb, sb, _, _, rfl, pwR2.1, plan_ok pwR2.2, fun HS sS => ?_⟩
      refine ⟨0, rfl, ?_⟩
      refine ⟨true, rfl, ?_⟩
      have pwS := pwR2.mono sS
      refine ⟨_, rfl, br, dbr, _, rfl, sS _ _ (sR2 _ _ br1), pk_no, _, rfl, br, wb, sb, _, _, _, rfl, pwS.1, (plan_ok pwS.2).nd, trivial, _, rfl, ?_⟩
      have sOS := Same.trans sOQ (Same.trans sQR (Same.trans sR2 sS))
      have dataN : ∀ z ∈ nms LO, PyData.strOk z = true := fun z hz => nm_low nmO hz
      -- the packs, one by one
      refine ⟨_, rfl, _, rfl, _, rfl, _, rfl, by show 4 ≤ sizeLine; decide, fun tq htq => ?_⟩
      have sS1 := same_new (o := .tup [V.ref pk, V.ref ag, V.ref tn, V.ref pk]) htq
      have sOT := Same.trans sOS sS1
      refine ⟨tq, rfl, ⟨_, SqT.of upd_same⟩, for_it walk_tup (fun i σ H' => ∃ (v14 v15 : Option V), σ = [some (.ref a), some (.ref p), some (.ref ev), some (.ref rl), some (.ref nl), some (.ref pa), some (.ref hl9), some (.ref pk), some (.ref ag), some (.ref tn), some ov, some (.int ((A1 : Nat) : Int)), some (.str nm), some (.ref br), v14, v15] ∧ Same (upd HS tq (.tup [V.ref pk, V.ref ag, V.ref tn, V.ref pk])) H') ⟨none, none, rfl, Same.refl _⟩ (fun _ _ _ _ ⟨_, _, _, q⟩ => SqT.of (q _ _ upd_same)) ?_ ?_⟩
      · rintro i x σ H1 H2 hi ⟨v14, v15, rfl, hs⟩ ⟨rfl, hx⟩
        have hxm := List.mem_of_getElem? hx
        have sO2 := Same.trans sOT hs
        obtain ⟨tq2, wd, sd, rfl, pwT⟩ : ∃ q' wd sd, x = .ref q' ∧ PackW (He.ga K "Pack") H2 q' wd sd M := by
          simp only [List.mem_cons, List.not_mem_nil, or_false] at hxm
          rcases hxm with rfl | rfl | rfl | rfl
          · exact ⟨pk, wk, sk, rfl, pkO.mono sO2⟩
          · exact ⟨ag, wa, sa, rfl, agO.mono sO2⟩
          · exact ⟨tn, wt, st, rfl, tnO.mono sO2⟩
          · exact ⟨pk, wk, sk, rfl, pkO.mono sO2⟩
        refine ⟨_, rfl, _, rfl, _, rfl, _, rfl, a, 0, ns, rfl, sql_same sO2 sqO, fun j3 => ?_⟩
        refine ⟨_, _, rfl, rfl, cd, tq2, wd, sd, nl, pa, M, _, rfl, pwT, sO2 _ _ nlO, ⟨fd, planO.mono sO2⟩, lowM, fun H3 s3 => ?_⟩
        refine ⟨true, rfl, ?_⟩
        refine ⟨_, rfl, by show 1 ≤ sizeLine; decide, fun la2 hla2 => ?_⟩
        have s31 := same_new (o := .lst [V.str "a"]) hla2
        refine ⟨by show 5 ≤ sizeLine; decide, fun lo2 hlo2 => ?_⟩
        have s32 := Same.new (o := .lst [V.str nm, V.non, V.int 5, V.ref la2, V.str ""]) s31 hlo2
        have sO3 := Same.trans sO2 (Same.trans s3 s32)
        refine ⟨_, rfl, p, dxO, fsO, rfl, sO3 _ _ k1, k4, p, LO, rfl, sbO.mono sO3, fun l8 H4' hl8 s4' hl84 => ?_⟩
        refine ⟨lo2, l8, _, _, rfl, rfl, s4' _ _ upd_same, hl84, le_line (by rw [List.length_map]; show 5 + _ ≤ _; omega), fun c3 hc3 => ?_⟩
        have s5' := Same.new (o := .lst ([V.str nm, V.non, V.int 5, V.ref la2, V.str ""] ++ (nms LO).map V.str)) s4' hc3
        have la3 : upd H4' c3 (.lst ([V.str nm, V.non, V.int 5, V.ref la2, V.str ""] ++ (nms LO).map V.str)) la2 = some (.lst [V.str "a"]) := s5' _ _ (same_new hlo2 _ _ upd_same)
        have s35 := Same.trans (Same.trans s3 s32) s5'
        refine ⟨c3, rfl, ⟨_, SqL.of upd_same⟩, for_it walk_list (fun k5 σ H' => ∃ (v15 : Option V), σ = [some (.ref a), some (.ref p), some (.ref ev), some (.ref rl), some (.ref nl), some (.ref pa), some (.ref hl9), some (.ref pk), some (.ref ag), some (.ref tn), some ov, some (.int ((A1 : Nat) : Int)), some (.str nm), some (.ref br), some (.ref tq2), v15] ∧ Same (upd H4' c3 (.lst ([V.str nm, V.non, V.int 5, V.ref la2, V.str ""] ++ (nms LO).map V.str))) H') ⟨v15, rfl, Same.refl _⟩ (fun _ _ _ _ ⟨_, _, q⟩ => SqL.of (q _ _ upd_same)) ?_ ?_⟩
        · rintro k5 y σ H6 H7' hk5 ⟨v15, rfl, h6⟩ ⟨rfl, hy⟩
          have hym := List.mem_of_getElem? hy
          have s26 := Same.trans s35 h6
          have laH := h6 _ _ la3
          have shape : (∃ z, y = .str z ∧ PyData.strOk z = true) ∨ y = .non ∨ (∃ i, y = .int i) ∨ ∃ a, y = .ref a ∧ H7' a = some (.lst [.str "a"]) := by
            rcases List.mem_append.mp hym with z | z
            · simp only [List.mem_cons, List.not_mem_nil, or_false] at z
              rcases z with rfl | rfl | rfl | rfl | rfl
              · exact .inl ⟨nm, rfl, nm_low nmO (nms_mem mO)⟩
              · exact .inr (.inl rfl)
              · exact .inr (.inr (.inl ⟨_, rfl⟩))
              · exact .inr (.inr (.inr ⟨_, rfl, laH⟩))
              · exact .inl ⟨_, rfl, by decide +kernel⟩
            · obtain ⟨n, hn, rfl⟩ := List.mem_map.mp z
              exact .inl ⟨n, rfl, dataN n hn⟩
          have vo : VOk H7' y := by
            rcases shape with ⟨z, rfl, _⟩ | rfl | ⟨i, rfl⟩ | ⟨a, rfl, ha⟩
            · trivial
            · trivial
            · trivial
            · exact ⟨_, ha⟩
          obtain ⟨d, dp, dsh, dany⟩ := data_of (K := K) (ns := nms M) shape
          refine ⟨_, rfl, _, rfl, d, _, dp, dp_strs (s26 _ _ (sO2 _ _ nlO)), dsh, shaped_strs lowM, _, rfl, ?_⟩
          rw [dany]
          cases ch : hasV (nms M) y with
          | true => exact ⟨_, rfl, h6⟩
          | false =>
            refine ⟨_, rfl, _, rfl, tq2, wd, sd, M, y, rfl, pwT.mono s26, vo, ch, ?_⟩
            exact ⟨true, rfl, _, rfl, h6⟩
        · rintro σ H6 ⟨v15, rfl, h6⟩
          exact ⟨_, _, rfl, Same.trans hs (Same.trans s35 h6)⟩
      · rintro σ H1 ⟨v14, v15, rfl, hs⟩
        exact k H1
end
end An

set_option maxHeartbeats 0
namespace An
open PySem PySem.Spec PyProof.Rows L2
theorem facts {P : Program} {w : World} {K : PySem.W.Frag} {h : Heap} {mg : Str → Option Value} {f : Addr} (X : K.In h) (G : h.Ns mainGlobals mg) (hfa : mg ("law" : Str) = some (.ref f)) (c : He.SaysD fa fn K) :
    ∃ fd : FuncData, (∀ (s : Shared) (v : Value), BindsTo s fd ⟨[v], []⟩ [("_law_script", v)]) ∧ ∀ base : Heap, K.In base → base.Ns mainGlobals mg → FnOk P w K mg base CX0 25 f fd ["_law_script"] (spLaw K) := by
  have T : Tx K mg := tx_of X G c
  obtain ⟨fd, F⟩ := T.d_law
  have e := hfa.symm.trans T.g_law
  cases e
  have b := FunD.bindsA (ps := ["_law_script"]) F fun _ _ _ _ _ _ us hl => match us, hl with | [_], _ => rfl
  exact ⟨fd, fun s v => b s [v] rfl, fun base _ _ => ok_law T F⟩
end An
open PySem PySem.W PySem.Calls PyProof.Rows
theorem PySem.Challenge.cw_annals_k29_how_packed_holds : PySem.Challenge.rw_annals_k29_how_packed.Holds := by
  w_on; o_law
  refine HandSHeadRun.head_any (r := OpenLaw.row PySem.Challenge.rw_annals_k29_how_packed) (q := view (OpenLaw.row PySem.Challenge.rw_annals_k29_how_packed).prog [57]) (H := An.hk) (ob := An.ob) (M := 4000) (loose := An.lo) (d := HandSHeadRun.topDef (OpenLaw.row PySem.Challenge.rw_annals_k29_how_packed).prog 57) (kwd := []) An.ob_eq
    (by kernel_rfl) (fun s => by kernel_rfl) An.run (by kernel_rfl) (by kernel_rfl) (by kernel_rfl) (by rfl) (by first | assumption | decide +kernel) (by decide +kernel) ⟨rfl, rfl, rfl, rfl, rfl, by decide +kernel⟩ ?hw ?hc
  case hw => w_witness2
  case hc =>
    refine L2.walk_ofE (l := PySem.Challenge.rw_annals_k29_how_packed) (n := 63) (k := 25) (x := "_law_script") (CX := L2.CX0) rfl (by decide) (by kernel_rfl) ⟨rfl, by decide, by decide⟩ ?F (fun _ _ _ _ z => z)
    intro w mg fa h Y G hmg0
    obtain ⟨K, KX, c⟩ := Y
    have hmg : mg ("law" : PySem.Str) = some (.ref fa) := by
      have e : (HandSHeadRun.topDef (OpenLaw.row PySem.Challenge.rw_annals_k29_how_packed).prog 57).name = ("law" : PySem.Str) := by kernel_rfl
      rw [← e]
      exact hmg0
    obtain ⟨fd, hb, hF⟩ := An.facts (P := (PySem.Challenge.rw_annals_k29_how_packed).prog) (w := w) KX G hmg c
    exact ⟨K, fd, An.spLaw K, KX, hb, fun H a ns hl _ hS => ⟨a, ns, rfl, hS, fun _ => rfl⟩, hF⟩

