import PyProof.Rows.All
import Wide.All
import OpenK.AllK
import Wide.FinOn
import KE.KStateDown
import HandS.ForMost
import HandS.More
import HandS.Exc
import HandS.Defaults
import HandS.Wide
import HandS.Gcd
import HandS.IsInst
import HandS.ClsMeth
import HandS.DictComp
import HandS.Conv
import HandS.NoneIn
import HandS.Codes
import KE.SortData
import KE.KDictKeyed
import HandS.Head0
import HandS.Head1
import HandS.Head2
import HandS.HeadEnd
import HandS.HeadHook1
import HandS.HeadHook2
import HandS.HeadNt
import HandS.Head3
import HandS.Walk
import HandS.WordsDict
import HandS.DeepEq
import HandS.Rev
import HandS.RevTup
import HandS.Small
import PySem.Challenge.RW_samphire_k63_whole_stores_have_one_law
set_option Elab.async false
set_option linter.all false
set_option maxRecDepth 100000
set_option maxHeartbeats 4000000
namespace Sam
open PySem PySem.Spec PyProof.Rows L2
def top (i : Nat) : Stmt := PySem.Challenge.pw_samphire_k63_whole_stores_have_one_law.main.body.getD i (.Pass ⟨0, 0, 0, 0⟩)
abbrev s_is_name : Stmt := top 17
abbrev s_lowest : Stmt := top 21
abbrev s_plus : Stmt := top 22
abbrev s_times : Stmt := top 24
abbrev s_less : Stmt := top 26
abbrev s_sum_of : Stmt := top 27
abbrev s_are_chances : Stmt := top 29
abbrev s_l_from : Stmt := top 30
abbrev s_check_size : Stmt := top 33
abbrev s_check_keys : Stmt := top 34
abbrev s_check_plan : Stmt := top 51
abbrev s_empty_sample : Stmt := top 53
abbrev s_single_sample : Stmt := top 54
abbrev s_same_plan : Stmt := top 55
abbrev s_l_draws : Stmt := top 61
abbrev s_l_take : Stmt := top 62
abbrev s_l_stream : Stmt := top 63
abbrev s_l_mixed : Stmt := top 64
abbrev s_l_gathered : Stmt := top 65
abbrev s_l_plain : Stmt := top 66
abbrev s_law : Stmt := top 67
abbrev s_Uniform_init : Stmt := inClass (top 35) 0
abbrev s_Uniform_empty : Stmt := inClass (top 35) 1
abbrev s_Uniform_single : Stmt := inClass (top 35) 2
abbrev s_Uniform_check : Stmt := inClass (top 35) 3
abbrev s_Uniform_merge : Stmt := inClass (top 35) 4
abbrev s_Uniform_view : Stmt := inClass (top 35) 5
abbrev s_Weighted_init : Stmt := inClass (top 46) 0
abbrev s_Weighted_empty : Stmt := inClass (top 46) 1
abbrev s_Weighted_single : Stmt := inClass (top 46) 2
abbrev s_Weighted_check : Stmt := inClass (top 46) 3
abbrev s_Weighted_merge : Stmt := inClass (top 46) 4
abbrev s_Weighted_view : Stmt := inClass (top 46) 5
abbrev s_Plan_init : Stmt := inClass (top 52) 0
abbrev s_Plan_place_of : Stmt := inClass (top 52) 1
abbrev s_Plan_places : Stmt := inClass (top 52) 2
abbrev s_Plan_rule : Stmt := inClass (top 52) 3
abbrev s_Store_init : Stmt := inClass (top 56) 0
abbrev s_Store_put : Stmt := inClass (top 56) 1
abbrev s_Store_sample : Stmt := inClass (top 56) 2
abbrev s_Store_merged : Stmt := inClass (top 56) 3
abbrev s_Store_view : Stmt := inClass (top 56) 6
abbrev s_Explorer_init : Stmt := inClass (top 59) 0
abbrev s_Explorer_advance : Stmt := inClass (top 59) 1
abbrev s_Explorer_begin : Stmt := inClass (top 59) 2
abbrev s_Explorer_pick : Stmt := inClass (top 59) 3
abbrev s_Explorer_end : Stmt := inClass (top 59) 4
abbrev s_Explorer_gathered : Stmt := inClass (top 59) 6
theorem sc_is_name : FnScope ["text", "sign"] ["text"] (defScope s_is_name) := ⟨rfl, rfl, rfl, by decide +kernel, rfl, by decide +kernel, by decide +kernel⟩
theorem sc_lowest : FnScope ["p", "q", "divisor"] ["p", "q"] (defScope s_lowest) := ⟨rfl, rfl, rfl, by decide +kernel, rfl, by decide +kernel, by decide +kernel⟩
theorem sc_plus : FnScope ["a", "b"] ["a", "b"] (defScope s_plus) := ⟨rfl, rfl, rfl, by decide +kernel, rfl, by decide +kernel, by decide +kernel⟩
theorem sc_times : FnScope ["a", "b"] ["a", "b"] (defScope s_times) := ⟨rfl, rfl, rfl, by decide +kernel, rfl, by decide +kernel, by decide +kernel⟩
theorem sc_less : FnScope ["a", "b"] ["a", "b"] (defScope s_less) := ⟨rfl, rfl, rfl, by decide +kernel, rfl, by decide +kernel, by decide +kernel⟩
theorem sc_sum_of : FnScope ["fractions", "total", "fraction"] ["fractions"] (defScope s_sum_of) := ⟨rfl, rfl, rfl, by decide +kernel, rfl, by decide +kernel, by decide +kernel⟩
theorem sc_are_chances : FnScope ["fractions", "fraction"] ["fractions"] (defScope s_are_chances) := ⟨rfl, rfl, rfl, by decide +kernel, rfl, by decide +kernel, by decide +kernel⟩
theorem sc_l_from : FnScope ["rows", "sums", "outcome", "chance", "_"] ["rows"] (defScope s_l_from) := ⟨rfl, rfl, rfl, by decide +kernel, rfl, by decide +kernel, by decide +kernel⟩
theorem sc_check_size : FnScope ["size"] ["size"] (defScope s_check_size) := ⟨rfl, rfl, rfl, by decide +kernel, rfl, by decide +kernel, by decide +kernel⟩
theorem sc_check_keys : FnScope ["first", "second", "keys", "shared", "item"] ["first", "second"] (defScope s_check_keys) := ⟨rfl, rfl, rfl, by decide +kernel, rfl, by decide +kernel, by decide +kernel⟩
theorem sc_check_plan : FnScope ["rules", "others", "pairs", "group", "kind", "size"] ["rules", "others"] (defScope s_check_plan) := ⟨rfl, rfl, rfl, by decide +kernel, rfl, by decide +kernel, by decide +kernel⟩
theorem sc_empty_sample : FnScope ["rule", "kind", "size"] ["rule"] (defScope s_empty_sample) := ⟨rfl, rfl, rfl, by decide +kernel, rfl, by decide +kernel, by decide +kernel⟩
theorem sc_single_sample : FnScope ["rule", "item", "kind", "size"] ["rule", "item"] (defScope s_single_sample) := ⟨rfl, rfl, rfl, by decide +kernel, rfl, by decide +kernel, by decide +kernel⟩
theorem sc_same_plan : FnScope ["plan", "other"] ["plan", "other"] (defScope s_same_plan) := ⟨rfl, rfl, rfl, by decide +kernel, rfl, by decide +kernel, by decide +kernel⟩
theorem sc_l_draws : FnScope ["_law_script", "_law_draws_here", "_law_cell", "_law_number", "_law_first", "_law_k", "_law_seed"] ["_law_script"] (defScope s_l_draws) := ⟨rfl, rfl, rfl, by decide +kernel, rfl, by decide +kernel, by decide +kernel⟩
theorem sc_l_take : FnScope ["_law_draws_here", "_law_bound"] ["_law_draws_here", "_law_bound"] (defScope s_l_take) := ⟨rfl, rfl, rfl, by decide +kernel, rfl, by decide +kernel, by decide +kernel⟩
theorem sc_l_stream : FnScope ["_law_draws_here", "_law_most", "_law_items", "_law_key", "_law_weight", "_law_order", "_law_k", "_law_row"] ["_law_draws_here", "_law_most"] (defScope s_l_stream) := ⟨rfl, rfl, rfl, by decide +kernel, rfl, by decide +kernel, by decide +kernel⟩
theorem sc_l_mixed : FnScope ["_law_draws_here", "_law_items", "_law_order", "_law_k", "_law_row"] ["_law_draws_here", "_law_items"] (defScope s_l_mixed) := ⟨rfl, rfl, rfl, by decide +kernel, rfl, by decide +kernel, by decide +kernel⟩
theorem sc_l_gathered : FnScope ["_law_rules", "_law_others", "_law_lists", "_law_explorer", "_law_turn", "_law_stores", "_law_k", "_law_store", "_law_item", "_law_whole"] ["_law_rules", "_law_others", "_law_lists"] (defScope s_l_gathered) := ⟨rfl, rfl, rfl, by decide +kernel, rfl, by decide +kernel, by decide +kernel⟩
theorem sc_l_plain : FnScope ["_law_views", "_law_found", "_law_view", "_law_item"] ["_law_views"] (defScope s_l_plain) := ⟨rfl, rfl, rfl, by decide +kernel, rfl, by decide +kernel, by decide +kernel⟩
theorem sc_law : FnScope ["_law_script", "_law_draws_here", "_law_rules", "_law_group", "_law_others", "_law_items", "_law_first", "_law_mixed_here", "_law_cut"] ["_law_script"] (defScope s_law) := ⟨rfl, rfl, rfl, by decide +kernel, rfl, by decide +kernel, by decide +kernel⟩
theorem sc_Uniform_init : FnScope ["self", "size", "seen", "kept"] ["self", "size", "seen", "kept"] (defScope s_Uniform_init) := ⟨rfl, rfl, rfl, by decide +kernel, rfl, by decide +kernel, by decide +kernel⟩
theorem sc_Uniform_empty : FnScope ["cls", "size"] ["cls", "size"] (defScope s_Uniform_empty) := ⟨rfl, rfl, rfl, by decide +kernel, rfl, by decide +kernel, by decide +kernel⟩
theorem sc_Uniform_single : FnScope ["cls", "item", "size"] ["cls", "item", "size"] (defScope s_Uniform_single) := ⟨rfl, rfl, rfl, by decide +kernel, rfl, by decide +kernel, by decide +kernel⟩
theorem sc_Uniform_check : FnScope ["self", "other"] ["self", "other"] (defScope s_Uniform_check) := ⟨rfl, rfl, rfl, by decide +kernel, rfl, by decide +kernel, by decide +kernel⟩
theorem sc_Uniform_merge : FnScope ["self", "other", "dice", "seen", "lists", "found", "_", "side", "place"] ["self", "other", "dice"] (defScope s_Uniform_merge) := ⟨rfl, rfl, rfl, by decide +kernel, rfl, by decide +kernel, by decide +kernel⟩
theorem sc_Uniform_view : FnScope ["self"] ["self"] (defScope s_Uniform_view) := ⟨rfl, rfl, rfl, by decide +kernel, rfl, by decide +kernel, by decide +kernel⟩
theorem sc_Weighted_init : FnScope ["self", "size", "total", "kept"] ["self", "size", "total", "kept"] (defScope s_Weighted_init) := ⟨rfl, rfl, rfl, by decide +kernel, rfl, by decide +kernel, by decide +kernel⟩
theorem sc_Weighted_empty : FnScope ["cls", "size"] ["cls", "size"] (defScope s_Weighted_empty) := ⟨rfl, rfl, rfl, by decide +kernel, rfl, by decide +kernel, by decide +kernel⟩
theorem sc_Weighted_single : FnScope ["cls", "item", "size"] ["cls", "item", "size"] (defScope s_Weighted_single) := ⟨rfl, rfl, rfl, by decide +kernel, rfl, by decide +kernel, by decide +kernel⟩
theorem sc_Weighted_check : FnScope ["self", "other"] ["self", "other"] (defScope s_Weighted_check) := ⟨rfl, rfl, rfl, by decide +kernel, rfl, by decide +kernel, by decide +kernel⟩
theorem sc_Weighted_merge : FnScope ["self", "other", "dice", "left", "lists", "found", "side", "item"] ["self", "other", "dice"] (defScope s_Weighted_merge) := ⟨rfl, rfl, rfl, by decide +kernel, rfl, by decide +kernel, by decide +kernel⟩
theorem sc_Weighted_view : FnScope ["self"] ["self"] (defScope s_Weighted_view) := ⟨rfl, rfl, rfl, by decide +kernel, rfl, by decide +kernel, by decide +kernel⟩
theorem sc_Plan_init : FnScope ["self", "rules", "others", "reason"] ["self", "rules", "others"] (defScope s_Plan_init) := ⟨rfl, rfl, rfl, by decide +kernel, rfl, by decide +kernel, by decide +kernel⟩
theorem sc_Plan_place_of : FnScope ["self", "group"] ["self", "group"] (defScope s_Plan_place_of) := ⟨rfl, rfl, rfl, by decide +kernel, rfl, by decide +kernel, by decide +kernel⟩
theorem sc_Plan_places : FnScope ["self"] ["self"] (defScope s_Plan_places) := ⟨rfl, rfl, rfl, by decide +kernel, rfl, by decide +kernel, by decide +kernel⟩
theorem sc_Plan_rule : FnScope ["self", "place"] ["self", "place"] (defScope s_Plan_rule) := ⟨rfl, rfl, rfl, by decide +kernel, rfl, by decide +kernel, by decide +kernel⟩
theorem sc_Store_init : FnScope ["self", "plan", "parts", "place"] ["self", "plan", "parts"] (defScope s_Store_init) := ⟨rfl, rfl, rfl, by decide +kernel, rfl, by decide +kernel, by decide +kernel⟩
theorem sc_Store_put : FnScope ["self", "item", "dice", "place", "sample", "kept"] ["self", "item", "dice"] (defScope s_Store_put) := ⟨rfl, rfl, rfl, by decide +kernel, rfl, by decide +kernel, by decide +kernel⟩
theorem sc_Store_sample : FnScope ["self", "place"] ["self", "place"] (defScope s_Store_sample) := ⟨rfl, rfl, rfl, by decide +kernel, rfl, by decide +kernel, by decide +kernel⟩
theorem sc_Store_merged : FnScope ["self", "other", "dice", "common", "place", "keys", "both", "found", "part", "item"] ["self", "other", "dice"] (defScope s_Store_merged) := ⟨rfl, rfl, rfl, by decide +kernel, rfl, by decide +kernel, by decide +kernel⟩
theorem sc_Store_view : FnScope ["self", "place"] ["self"] (defScope s_Store_view) := ⟨rfl, rfl, rfl, by decide +kernel, rfl, by decide +kernel, by decide +kernel⟩
theorem sc_Explorer_init : FnScope ["self"] ["self"] (defScope s_Explorer_init) := ⟨rfl, rfl, rfl, by decide +kernel, rfl, by decide +kernel, by decide +kernel⟩
theorem sc_Explorer_advance : FnScope ["self", "number", "weights", "other"] ["self"] (defScope s_Explorer_advance) := ⟨rfl, rfl, rfl, by decide +kernel, rfl, by decide +kernel, by decide +kernel⟩
theorem sc_Explorer_begin : FnScope ["self", "kept"] ["self"] (defScope s_Explorer_begin) := ⟨rfl, rfl, rfl, by decide +kernel, rfl, by decide +kernel, by decide +kernel⟩
theorem sc_Explorer_pick : FnScope ["self", "weights", "first", "number"] ["self", "weights"] (defScope s_Explorer_pick) := ⟨rfl, rfl, rfl, by decide +kernel, rfl, by decide +kernel, by decide +kernel⟩
theorem sc_Explorer_end : FnScope ["self", "outcome"] ["self", "outcome"] (defScope s_Explorer_end) := ⟨rfl, rfl, rfl, by decide +kernel, rfl, by decide +kernel, by decide +kernel⟩
theorem sc_Explorer_gathered : FnScope ["self"] ["self"] (defScope s_Explorer_gathered) := ⟨rfl, rfl, rfl, by decide +kernel, rfl, by decide +kernel, by decide +kernel⟩
/-- what the top has left -/
structure Tx (K : PySem.W.Frag) (mg : Str → Option Value) : Prop where
  g_is_name : mg "is_name" = some (.ref (He.ga K "is_name"))
  g_lowest : mg "lowest" = some (.ref (He.ga K "lowest"))
  g_plus : mg "plus" = some (.ref (He.ga K "plus"))
  g_times : mg "times" = some (.ref (He.ga K "times"))
  g_less : mg "less" = some (.ref (He.ga K "less"))
  g_sum_of : mg "sum_of" = some (.ref (He.ga K "sum_of"))
  g_are_chances : mg "are_chances" = some (.ref (He.ga K "are_chances"))
  g_law_from : mg "law_from" = some (.ref (He.ga K "law_from"))
  g_check_size : mg "check_size" = some (.ref (He.ga K "check_size"))
  g_check_keys : mg "check_keys" = some (.ref (He.ga K "check_keys"))
  g_check_plan : mg "check_plan" = some (.ref (He.ga K "check_plan"))
  g_empty_sample : mg "empty_sample" = some (.ref (He.ga K "empty_sample"))
  g_single_sample : mg "single_sample" = some (.ref (He.ga K "single_sample"))
  g_same_plan : mg "same_plan" = some (.ref (He.ga K "same_plan"))
  g_law_draws : mg "_law_draws" = some (.ref (He.ga K "_law_draws"))
  g_law_take : mg "_law_take" = some (.ref (He.ga K "_law_take"))
  g_law_stream : mg "_law_stream" = some (.ref (He.ga K "_law_stream"))
  g_law_mixed : mg "_law_mixed" = some (.ref (He.ga K "_law_mixed"))
  g_law_gathered : mg "_law_gathered" = some (.ref (He.ga K "_law_gathered"))
  g_law_plain : mg "_law_plain" = some (.ref (He.ga K "_law_plain"))
  g_law : mg "law" = some (.ref (He.ga K "law"))
  g_Uniform : mg "Uniform" = some (.ref (He.ga K "Uniform"))
  g_Weighted : mg "Weighted" = some (.ref (He.ga K "Weighted"))
  g_Plan : mg "Plan" = some (.ref (He.ga K "Plan"))
  g_Store : mg "Store" = some (.ref (He.ga K "Store"))
  g_Explorer : mg "Explorer" = some (.ref (He.ga K "Explorer"))
  g_NOTHING_ratios : mg "NOTHING_ratios" = some (.ref (He.ga K "NOTHING_ratios"))
  g_ONE_ratios : mg "ONE_ratios" = some (.ref (He.ga K "ONE_ratios"))
  g_KINDS : mg "KINDS" = some (.ref (He.ga K "KINDS"))
  t_NOTHING_ratios : ∀ H : Hp, SqT K H (He.ga K "NOTHING_ratios") [V.int 0, V.int 1]
  t_ONE_ratios : ∀ H : Hp, SqT K H (He.ga K "ONE_ratios") [V.int 1, V.int 1]
  t_KINDS : ∀ H : Hp, SqT K H (He.ga K "KINDS") [V.str "uniform", V.str "weighted", V.str "optimal"]
  i_MOST_SIZE_uniform : ∃ t, mg "MOST_SIZE_uniform" = some (.int 20 t)
  i_MOST_GROUPS : ∃ t, mg "MOST_GROUPS" = some (.int 20 t)
  i_MOST_SIZE_store : ∃ t, mg "MOST_SIZE_store" = some (.int 20 t)
  i_MOST_RUNS : ∃ t, mg "MOST_RUNS" = some (.int 20000 t)
  s_NAME_SIGNS : ∃ t, mg "NAME_SIGNS" = some (.str "abcdefghijklmnopqrstuvwxyz0123456789" t)
  m_gcd : mg "gcd" = some (.builtin "math.gcd")
  f_len : mg "len" = none
  f_sorted : mg "sorted" = none
  f_sum : mg "sum" = none
  f_range : mg "range" = none
  f_list : mg "list" = none
  f_tuple : mg "tuple" = none
  f_min : mg "min" = none
  f_abs : mg "abs" = none
  f_int : mg "int" = none
  f_str : mg "str" = none
  f_isinstance : mg "isinstance" = none
  f_all : mg "all" = none
  f_any : mg "any" = none
  f_reversed : mg "reversed" = none
  f_dict : mg "dict" = none
  c_Uniform : Cls K (He.ga K "Uniform")
  k_Uniform : Mk K (He.ga K "Uniform") (He.ma K (He.ga K "Uniform") "__init__")
  n_Uniform_size : NoAttr K (He.ga K "Uniform") "size"
  n_Uniform_seen : NoAttr K (He.ga K "Uniform") "seen"
  n_Uniform_kept : NoAttr K (He.ga K "Uniform") "kept"
  cm_Uniform_empty : ClX.CMet K (He.ga K "Uniform") (.type "type") "empty" (He.ma K (He.ga K "Uniform") "empty") (He5.wf K (He.ga K "Uniform") "classmethod" "empty")
  cm_Uniform_single : ClX.CMet K (He.ga K "Uniform") (.type "type") "single" (He.ma K (He.ga K "Uniform") "single") (He5.wf K (He.ga K "Uniform") "classmethod" "single")
  m_Uniform_check : Meth K (He.ga K "Uniform") "check" (He.ma K (He.ga K "Uniform") "check")
  m_Uniform_merge : Meth K (He.ga K "Uniform") "merge" (He.ma K (He.ga K "Uniform") "merge")
  m_Uniform_view : Meth K (He.ga K "Uniform") "view" (He.ma K (He.ga K "Uniform") "view")
  c_Weighted : Cls K (He.ga K "Weighted")
  k_Weighted : Mk K (He.ga K "Weighted") (He.ma K (He.ga K "Weighted") "__init__")
  n_Weighted_size : NoAttr K (He.ga K "Weighted") "size"
  n_Weighted_total : NoAttr K (He.ga K "Weighted") "total"
  n_Weighted_kept : NoAttr K (He.ga K "Weighted") "kept"
  cm_Weighted_empty : ClX.CMet K (He.ga K "Weighted") (.type "type") "empty" (He.ma K (He.ga K "Weighted") "empty") (He5.wf K (He.ga K "Weighted") "classmethod" "empty")
  cm_Weighted_single : ClX.CMet K (He.ga K "Weighted") (.type "type") "single" (He.ma K (He.ga K "Weighted") "single") (He5.wf K (He.ga K "Weighted") "classmethod" "single")
  m_Weighted_check : Meth K (He.ga K "Weighted") "check" (He.ma K (He.ga K "Weighted") "check")
  m_Weighted_merge : Meth K (He.ga K "Weighted") "merge" (He.ma K (He.ga K "Weighted") "merge")
  m_Weighted_view : Meth K (He.ga K "Weighted") "view" (He.ma K (He.ga K "Weighted") "view")
  c_Plan : Cls K (He.ga K "Plan")
  k_Plan : Mk K (He.ga K "Plan") (He.ma K (He.ga K "Plan") "__init__")
  n_Plan_rules : NoAttr K (He.ga K "Plan") "rules"
  n_Plan_others : NoAttr K (He.ga K "Plan") "others"
  m_Plan_place_of : Meth K (He.ga K "Plan") "place_of" (He.ma K (He.ga K "Plan") "place_of")
  m_Plan_places : Meth K (He.ga K "Plan") "places" (He.ma K (He.ga K "Plan") "places")
  m_Plan_rule : Meth K (He.ga K "Plan") "rule" (He.ma K (He.ga K "Plan") "rule")
  c_Store : Cls K (He.ga K "Store")
  k_Store : Mk K (He.ga K "Store") (He.ma K (He.ga K "Store") "__init__")
  n_Store_plan : NoAttr K (He.ga K "Store") "plan"
  n_Store_parts : NoAttr K (He.ga K "Store") "parts"
  n_Store_samples : NoAttr K (He.ga K "Store") "samples"
  m_Store_put : Meth K (He.ga K "Store") "put" (He.ma K (He.ga K "Store") "put")
  m_Store_sample : Meth K (He.ga K "Store") "sample" (He.ma K (He.ga K "Store") "sample")
  m_Store_merged : Meth K (He.ga K "Store") "merged" (He.ma K (He.ga K "Store") "merged")
  m_Store_view : Meth K (He.ga K "Store") "view" (He.ma K (He.ga K "Store") "view")
  c_Explorer : Cls K (He.ga K "Explorer")
  k_Explorer : Mk K (He.ga K "Explorer") (He.ma K (He.ga K "Explorer") "__init__")
  n_Explorer_path : NoAttr K (He.ga K "Explorer") "path"
  n_Explorer_at : NoAttr K (He.ga K "Explorer") "at"
  n_Explorer_chance : NoAttr K (He.ga K "Explorer") "chance"
  n_Explorer_is_open : NoAttr K (He.ga K "Explorer") "is_open"
  n_Explorer_is_over : NoAttr K (He.ga K "Explorer") "is_over"
  n_Explorer_many : NoAttr K (He.ga K "Explorer") "many"
  n_Explorer_rows : NoAttr K (He.ga K "Explorer") "rows"
  m_Explorer_advance : Meth K (He.ga K "Explorer") "advance" (He.ma K (He.ga K "Explorer") "advance")
  m_Explorer_begin : Meth K (He.ga K "Explorer") "begin" (He.ma K (He.ga K "Explorer") "begin")
  m_Explorer_pick : Meth K (He.ga K "Explorer") "pick" (He.ma K (He.ga K "Explorer") "pick")
  m_Explorer_end : Meth K (He.ga K "Explorer") "end" (He.ma K (He.ga K "Explorer") "end")
  m_Explorer_gathered : Meth K (He.ga K "Explorer") "gathered" (He.ma K (He.ga K "Explorer") "gathered")
  cr_Uniform : ClX.CRead K (He.ga K "Uniform") (.type "type")
  is_Uniform : C8.InsC K (He.ga K "Uniform")
  cr_Weighted : ClX.CRead K (He.ga K "Weighted") (.type "type")
  is_Weighted : C8.InsC K (He.ga K "Weighted")
  d_is_name : ∃ fd, Fun K "is_name" "is_name" s_is_name (He.ga K "is_name") fd
  d_lowest : ∃ fd, Fun K "lowest" "lowest" s_lowest (He.ga K "lowest") fd
  d_plus : ∃ fd, Fun K "plus" "plus" s_plus (He.ga K "plus") fd
  d_times : ∃ fd, Fun K "times" "times" s_times (He.ga K "times") fd
  d_less : ∃ fd, Fun K "less" "less" s_less (He.ga K "less") fd
  d_sum_of : ∃ fd, Fun K "sum_of" "sum_of" s_sum_of (He.ga K "sum_of") fd
  d_are_chances : ∃ fd, Fun K "are_chances" "are_chances" s_are_chances (He.ga K "are_chances") fd
  d_l_from : ∃ fd, Fun K "law_from" "law_from" s_l_from (He.ga K "law_from") fd
  d_check_size : ∃ fd, Fun K "check_size" "check_size" s_check_size (He.ga K "check_size") fd
  d_check_keys : ∃ fd, Fun K "check_keys" "check_keys" s_check_keys (He.ga K "check_keys") fd
  d_check_plan : ∃ fd, Fun K "check_plan" "check_plan" s_check_plan (He.ga K "check_plan") fd
  d_empty_sample : ∃ fd, Fun K "empty_sample" "empty_sample" s_empty_sample (He.ga K "empty_sample") fd
  d_single_sample : ∃ fd, Fun K "single_sample" "single_sample" s_single_sample (He.ga K "single_sample") fd
  d_same_plan : ∃ fd, Fun K "same_plan" "same_plan" s_same_plan (He.ga K "same_plan") fd
  d_l_draws : ∃ fd, Fun K "_law_draws" "_law_draws" s_l_draws (He.ga K "_law_draws") fd
  d_l_take : ∃ fd, Fun K "_law_take" "_law_take" s_l_take (He.ga K "_law_take") fd
  d_l_stream : ∃ fd, Fun K "_law_stream" "_law_stream" s_l_stream (He.ga K "_law_stream") fd
  d_l_mixed : ∃ fd, Fun K "_law_mixed" "_law_mixed" s_l_mixed (He.ga K "_law_mixed") fd
  d_l_gathered : ∃ fd, Fun K "_law_gathered" "_law_gathered" s_l_gathered (He.ga K "_law_gathered") fd
  d_l_plain : ∃ fd, Fun K "_law_plain" "_law_plain" s_l_plain (He.ga K "_law_plain") fd
  d_law : ∃ fd, Fun K "law" "law" s_law (He.ga K "law") fd
  d_Uniform_init : ∃ fd, Fun K "__init__" "Uniform.__init__" s_Uniform_init (He.ma K (He.ga K "Uniform") "__init__") fd
  d_Uniform_empty : ∃ fd, Fun K "empty" "Uniform.empty" s_Uniform_empty (He5.wf K (He.ga K "Uniform") "classmethod" "empty") fd
  d_Uniform_single : ∃ fd, Fun K "single" "Uniform.single" s_Uniform_single (He5.wf K (He.ga K "Uniform") "classmethod" "single") fd
  d_Uniform_check : ∃ fd, Fun K "check" "Uniform.check" s_Uniform_check (He.ma K (He.ga K "Uniform") "check") fd
  d_Uniform_merge : ∃ fd, Fun K "merge" "Uniform.merge" s_Uniform_merge (He.ma K (He.ga K "Uniform") "merge") fd
  d_Uniform_view : ∃ fd, Fun K "view" "Uniform.view" s_Uniform_view (He.ma K (He.ga K "Uniform") "view") fd
  d_Weighted_init : ∃ fd, Fun K "__init__" "Weighted.__init__" s_Weighted_init (He.ma K (He.ga K "Weighted") "__init__") fd
  d_Weighted_empty : ∃ fd, Fun K "empty" "Weighted.empty" s_Weighted_empty (He5.wf K (He.ga K "Weighted") "classmethod" "empty") fd
  d_Weighted_single : ∃ fd, Fun K "single" "Weighted.single" s_Weighted_single (He5.wf K (He.ga K "Weighted") "classmethod" "single") fd
  d_Weighted_check : ∃ fd, Fun K "check" "Weighted.check" s_Weighted_check (He.ma K (He.ga K "Weighted") "check") fd
  d_Weighted_merge : ∃ fd, Fun K "merge" "Weighted.merge" s_Weighted_merge (He.ma K (He.ga K "Weighted") "merge") fd
  d_Weighted_view : ∃ fd, Fun K "view" "Weighted.view" s_Weighted_view (He.ma K (He.ga K "Weighted") "view") fd
  d_Plan_init : ∃ fd, Fun K "__init__" "Plan.__init__" s_Plan_init (He.ma K (He.ga K "Plan") "__init__") fd
  d_Plan_place_of : ∃ fd, Fun K "place_of" "Plan.place_of" s_Plan_place_of (He.ma K (He.ga K "Plan") "place_of") fd
  d_Plan_places : ∃ fd, Fun K "places" "Plan.places" s_Plan_places (He.ma K (He.ga K "Plan") "places") fd
  d_Plan_rule : ∃ fd, Fun K "rule" "Plan.rule" s_Plan_rule (He.ma K (He.ga K "Plan") "rule") fd
  d_Store_init : ∃ fd, Fun K "__init__" "Store.__init__" s_Store_init (He.ma K (He.ga K "Store") "__init__") fd
  d_Store_put : ∃ fd, Fun K "put" "Store.put" s_Store_put (He.ma K (He.ga K "Store") "put") fd
  d_Store_sample : ∃ fd, Fun K "sample" "Store.sample" s_Store_sample (He.ma K (He.ga K "Store") "sample") fd
  d_Store_merged : ∃ fd, Fun K "merged" "Store.merged" s_Store_merged (He.ma K (He.ga K "Store") "merged") fd
  d_Store_view : ∃ fd, Fun K "view" "Store.view" s_Store_view (He.ma K (He.ga K "Store") "view") fd
  d_Explorer_init : ∃ fd, Fun K "__init__" "Explorer.__init__" s_Explorer_init (He.ma K (He.ga K "Explorer") "__init__") fd
  d_Explorer_advance : ∃ fd, Fun K "advance" "Explorer.advance" s_Explorer_advance (He.ma K (He.ga K "Explorer") "advance") fd
  d_Explorer_begin : ∃ fd, Fun K "begin" "Explorer.begin" s_Explorer_begin (He.ma K (He.ga K "Explorer") "begin") fd
  d_Explorer_pick : ∃ fd, Fun K "pick" "Explorer.pick" s_Explorer_pick (He.ma K (He.ga K "Explorer") "pick") fd
  d_Explorer_end : ∃ fd, Fun K "end" "Explorer.end" s_Explorer_end (He.ma K (He.ga K "Explorer") "end") fd
  d_Explorer_gathered : ∃ fd, Fun K "gathered" "Explorer.gathered" s_Explorer_gathered (He.ma K (He.ga K "Explorer") "gathered") fd
def exL (K : PySem.W.Frag) : List Bool := [
  (He.Fa.glo "is_name").ok K,
  (He.Fa.glo "lowest").ok K,
  (He.Fa.glo "plus").ok K,
  (He.Fa.glo "times").ok K,
  (He.Fa.glo "less").ok K,
  (He.Fa.glo "sum_of").ok K,
  (He.Fa.glo "are_chances").ok K,
  (He.Fa.glo "law_from").ok K,
  (He.Fa.glo "check_size").ok K,
  (He.Fa.glo "check_keys").ok K,
  (He.Fa.glo "check_plan").ok K,
  (He.Fa.glo "empty_sample").ok K,
  (He.Fa.glo "single_sample").ok K,
  (He.Fa.glo "same_plan").ok K,
  (He.Fa.glo "_law_draws").ok K,
  (He.Fa.glo "_law_take").ok K,
  (He.Fa.glo "_law_stream").ok K,
  (He.Fa.glo "_law_mixed").ok K,
  (He.Fa.glo "_law_gathered").ok K,
  (He.Fa.glo "_law_plain").ok K,
  (He.Fa.glo "law").ok K,
  (He.Fa.glo "Uniform").ok K,
  (He.Fa.glo "Weighted").ok K,
  (He.Fa.glo "Plan").ok K,
  (He.Fa.glo "Store").ok K,
  (He.Fa.glo "Explorer").ok K,
  (He.Fa.glo "NOTHING_ratios").ok K,
  (He.Fa.glo "ONE_ratios").ok K,
  (He.Fa.glo "KINDS").ok K,
  He.tupB K "NOTHING_ratios" [.int 0, .int 1],
  He.tupB K "ONE_ratios" [.int 1, .int 1],
  He.tupB K "KINDS" [.str "uniform", .str "weighted", .str "optimal"],
  (He.Fa.int "MOST_SIZE_uniform" 20).ok K,
  (He.Fa.int "MOST_GROUPS" 20).ok K,
  (He.Fa.int "MOST_SIZE_store" 20).ok K,
  (He.Fa.int "MOST_RUNS" 20000).ok K,
  (He.Fa.str "NAME_SIGNS" "abcdefghijklmnopqrstuvwxyz0123456789").ok K,
  He.eqO (PySem.W.nsIn K mainGlobals "gcd") (some (some (.builtin "math.gcd"))),
  (He.Fa.free "len").ok K,
  (He.Fa.free "sorted").ok K,
  (He.Fa.free "sum").ok K,
  (He.Fa.free "range").ok K,
  (He.Fa.free "list").ok K,
  (He.Fa.free "tuple").ok K,
  (He.Fa.free "min").ok K,
  (He.Fa.free "abs").ok K,
  (He.Fa.free "int").ok K,
  (He.Fa.free "str").ok K,
  (He.Fa.free "isinstance").ok K,
  (He.Fa.free "all").ok K,
  (He.Fa.free "any").ok K,
  (He.Fa.free "reversed").ok K,
  (He.Fa.free "dict").ok K,
  (He.Fa.cls "Uniform").ok K,
  (He.Fa.mkr "Uniform").ok K,
  (He.Fa.noat "Uniform" "size").ok K,
  (He.Fa.noat "Uniform" "seen").ok K,
  (He.Fa.noat "Uniform" "kept").ok K,
  (He5.wrapB K (He.ga K "Uniform") "classmethod" "classmethod.__get__" "empty" && PySem.W.fnIn K (He5.wf K (He.ga K "Uniform") "classmethod" "empty")),
  (He5.wrapB K (He.ga K "Uniform") "classmethod" "classmethod.__get__" "single" && PySem.W.fnIn K (He5.wf K (He.ga K "Uniform") "classmethod" "single")),
  (He.Fa.meth "Uniform" "check").ok K,
  (He.Fa.meth "Uniform" "merge").ok K,
  (He.Fa.meth "Uniform" "view").ok K,
  (He.Fa.cls "Weighted").ok K,
  (He.Fa.mkr "Weighted").ok K,
  (He.Fa.noat "Weighted" "size").ok K,
  (He.Fa.noat "Weighted" "total").ok K,
  (He.Fa.noat "Weighted" "kept").ok K,
  (He5.wrapB K (He.ga K "Weighted") "classmethod" "classmethod.__get__" "empty" && PySem.W.fnIn K (He5.wf K (He.ga K "Weighted") "classmethod" "empty")),
  (He5.wrapB K (He.ga K "Weighted") "classmethod" "classmethod.__get__" "single" && PySem.W.fnIn K (He5.wf K (He.ga K "Weighted") "classmethod" "single")),
  (He.Fa.meth "Weighted" "check").ok K,
  (He.Fa.meth "Weighted" "merge").ok K,
  (He.Fa.meth "Weighted" "view").ok K,
  (He.Fa.cls "Plan").ok K,
  (He.Fa.mkr "Plan").ok K,
  (He.Fa.noat "Plan" "rules").ok K,
  (He.Fa.noat "Plan" "others").ok K,
  (He.Fa.meth "Plan" "place_of").ok K,
  (He.Fa.meth "Plan" "places").ok K,
  (He.Fa.meth "Plan" "rule").ok K,
  (He.Fa.cls "Store").ok K,
  (He.Fa.mkr "Store").ok K,
  (He.Fa.noat "Store" "plan").ok K,
  (He.Fa.noat "Store" "parts").ok K,
  (He.Fa.noat "Store" "samples").ok K,
  (He.Fa.meth "Store" "put").ok K,
  (He.Fa.meth "Store" "sample").ok K,
  (He.Fa.meth "Store" "merged").ok K,
  (He.Fa.meth "Store" "view").ok K,
  (He.Fa.cls "Explorer").ok K,
  (He.Fa.mkr "Explorer").ok K,
  (He.Fa.noat "Explorer" "path").ok K,
  (He.Fa.noat "Explorer" "at").ok K,
  (He.Fa.noat "Explorer" "chance").ok K,
  (He.Fa.noat "Explorer" "is_open").ok K,
  (He.Fa.noat "Explorer" "is_over").ok K,
  (He.Fa.noat "Explorer" "many").ok K,
  (He.Fa.noat "Explorer" "rows").ok K,
  (He.Fa.meth "Explorer" "advance").ok K,
  (He.Fa.meth "Explorer" "begin").ok K,
  (He.Fa.meth "Explorer" "pick").ok K,
  (He.Fa.meth "Explorer" "end").ok K,
  (He.Fa.meth "Explorer" "gathered").ok K,
  (PySem.W.readsIn K (He.ga K "Uniform") (.type "type") && He.eqO (PySem.W.specialIn K (.ref (He.ga K "Uniform")) "__getattribute__") (some (some (.builtin "type.__getattribute__")))),
  ((He.Fa.cls "Uniform").ok K && (He.eqO (PySem.W.findIn K (.ref (He.ga K "Uniform")) "__class__") (some (some (.builtin "object.__class__"))) && (He.eqO (PySem.W.specialIn K (.builtin "object.__class__") "__get__") (some (some (.builtin "getset_descriptor.__get__"))) && (decide (PySem.W.takesIn K (.builtin "object.__class__") = some true) && (decide (PySem.W.mroIn K (He.ga K "Uniform") (.type "object") = some true) && decide (PySem.W.kitOne K (.ref (He.ga K "Uniform")) (.ref (He.ga K "Uniform")) = some true)))))),
  (PySem.W.readsIn K (He.ga K "Weighted") (.type "type") && He.eqO (PySem.W.specialIn K (.ref (He.ga K "Weighted")) "__getattribute__") (some (some (.builtin "type.__getattribute__")))),
  ((He.Fa.cls "Weighted").ok K && (He.eqO (PySem.W.findIn K (.ref (He.ga K "Weighted")) "__class__") (some (some (.builtin "object.__class__"))) && (He.eqO (PySem.W.specialIn K (.builtin "object.__class__") "__get__") (some (some (.builtin "getset_descriptor.__get__"))) && (decide (PySem.W.takesIn K (.builtin "object.__class__") = some true) && (decide (PySem.W.mroIn K (He.ga K "Weighted") (.type "object") = some true) && decide (PySem.W.kitOne K (.ref (He.ga K "Weighted")) (.ref (He.ga K "Weighted")) = some true))))))]
def fnL : List He5.DefA := [
  ⟨fun K => He.ga K "is_name", "is_name", "is_name", defArgs s_is_name, defBody s_is_name, defScope s_is_name, [], []⟩,
  ⟨fun K => He.ga K "lowest", "lowest", "lowest", defArgs s_lowest, defBody s_lowest, defScope s_lowest, [], []⟩,
  ⟨fun K => He.ga K "plus", "plus", "plus", defArgs s_plus, defBody s_plus, defScope s_plus, [], []⟩,
  ⟨fun K => He.ga K "times", "times", "times", defArgs s_times, defBody s_times, defScope s_times, [], []⟩,
  ⟨fun K => He.ga K "less", "less", "less", defArgs s_less, defBody s_less, defScope s_less, [], []⟩,
  ⟨fun K => He.ga K "sum_of", "sum_of", "sum_of", defArgs s_sum_of, defBody s_sum_of, defScope s_sum_of, [], []⟩,
  ⟨fun K => He.ga K "are_chances", "are_chances", "are_chances", defArgs s_are_chances, defBody s_are_chances, defScope s_are_chances, [], []⟩,
  ⟨fun K => He.ga K "law_from", "law_from", "law_from", defArgs s_l_from, defBody s_l_from, defScope s_l_from, [], []⟩,
  ⟨fun K => He.ga K "check_size", "check_size", "check_size", defArgs s_check_size, defBody s_check_size, defScope s_check_size, [], []⟩,
  ⟨fun K => He.ga K "check_keys", "check_keys", "check_keys", defArgs s_check_keys, defBody s_check_keys, defScope s_check_keys, [], []⟩,
  ⟨fun K => He.ga K "check_plan", "check_plan", "check_plan", defArgs s_check_plan, defBody s_check_plan, defScope s_check_plan, [], []⟩,
  ⟨fun K => He.ga K "empty_sample", "empty_sample", "empty_sample", defArgs s_empty_sample, defBody s_empty_sample, defScope s_empty_sample, [], []⟩,
  ⟨fun K => He.ga K "single_sample", "single_sample", "single_sample", defArgs s_single_sample, defBody s_single_sample, defScope s_single_sample, [], []⟩,
  ⟨fun K => He.ga K "same_plan", "same_plan", "same_plan", defArgs s_same_plan, defBody s_same_plan, defScope s_same_plan, [], []⟩,
  ⟨fun K => He.ga K "_law_draws", "_law_draws", "_law_draws", defArgs s_l_draws, defBody s_l_draws, defScope s_l_draws, [], []⟩,
  ⟨fun K => He.ga K "_law_take", "_law_take", "_law_take", defArgs s_l_take, defBody s_l_take, defScope s_l_take, [], []⟩,
  ⟨fun K => He.ga K "_law_stream", "_law_stream", "_law_stream", defArgs s_l_stream, defBody s_l_stream, defScope s_l_stream, [], []⟩,
  ⟨fun K => He.ga K "_law_mixed", "_law_mixed", "_law_mixed", defArgs s_l_mixed, defBody s_l_mixed, defScope s_l_mixed, [], []⟩,
  ⟨fun K => He.ga K "_law_gathered", "_law_gathered", "_law_gathered", defArgs s_l_gathered, defBody s_l_gathered, defScope s_l_gathered, [], []⟩,
  ⟨fun K => He.ga K "_law_plain", "_law_plain", "_law_plain", defArgs s_l_plain, defBody s_l_plain, defScope s_l_plain, [], []⟩,
  ⟨fun K => He.ga K "law", "law", "law", defArgs s_law, defBody s_law, defScope s_law, [], []⟩,
  ⟨fun K => He.ma K (He.ga K "Uniform") "__init__", "__init__", "Uniform.__init__", defArgs s_Uniform_init, defBody s_Uniform_init, defScope s_Uniform_init, [], []⟩,
  ⟨fun K => He5.wf K (He.ga K "Uniform") "classmethod" "empty", "empty", "Uniform.empty", defArgs s_Uniform_empty, defBody s_Uniform_empty, defScope s_Uniform_empty, [], []⟩,
  ⟨fun K => He5.wf K (He.ga K "Uniform") "classmethod" "single", "single", "Uniform.single", defArgs s_Uniform_single, defBody s_Uniform_single, defScope s_Uniform_single, [], []⟩,
  ⟨fun K => He.ma K (He.ga K "Uniform") "check", "check", "Uniform.check", defArgs s_Uniform_check, defBody s_Uniform_check, defScope s_Uniform_check, [], []⟩,
  ⟨fun K => He.ma K (He.ga K "Uniform") "merge", "merge", "Uniform.merge", defArgs s_Uniform_merge, defBody s_Uniform_merge, defScope s_Uniform_merge, [], []⟩,
  ⟨fun K => He.ma K (He.ga K "Uniform") "view", "view", "Uniform.view", defArgs s_Uniform_view, defBody s_Uniform_view, defScope s_Uniform_view, [], []⟩,
  ⟨fun K => He.ma K (He.ga K "Weighted") "__init__", "__init__", "Weighted.__init__", defArgs s_Weighted_init, defBody s_Weighted_init, defScope s_Weighted_init, [], []⟩,
  ⟨fun K => He5.wf K (He.ga K "Weighted") "classmethod" "empty", "empty", "Weighted.empty", defArgs s_Weighted_empty, defBody s_Weighted_empty, defScope s_Weighted_empty, [], []⟩,
  ⟨fun K => He5.wf K (He.ga K "Weighted") "classmethod" "single", "single", "Weighted.single", defArgs s_Weighted_single, defBody s_Weighted_single, defScope s_Weighted_single, [], []⟩,
  ⟨fun K => He.ma K (He.ga K "Weighted") "check", "check", "Weighted.check", defArgs s_Weighted_check, defBody s_Weighted_check, defScope s_Weighted_check, [], []⟩,
  ⟨fun K => He.ma K (He.ga K "Weighted") "merge", "merge", "Weighted.merge", defArgs s_Weighted_merge, defBody s_Weighted_merge, defScope s_Weighted_merge, [], []⟩,
  ⟨fun K => He.ma K (He.ga K "Weighted") "view", "view", "Weighted.view", defArgs s_Weighted_view, defBody s_Weighted_view, defScope s_Weighted_view, [], []⟩,
  ⟨fun K => He.ma K (He.ga K "Plan") "__init__", "__init__", "Plan.__init__", defArgs s_Plan_init, defBody s_Plan_init, defScope s_Plan_init, [], []⟩,
  ⟨fun K => He.ma K (He.ga K "Plan") "place_of", "place_of", "Plan.place_of", defArgs s_Plan_place_of, defBody s_Plan_place_of, defScope s_Plan_place_of, [], []⟩,
  ⟨fun K => He.ma K (He.ga K "Plan") "places", "places", "Plan.places", defArgs s_Plan_places, defBody s_Plan_places, defScope s_Plan_places, [], []⟩,
  ⟨fun K => He.ma K (He.ga K "Plan") "rule", "rule", "Plan.rule", defArgs s_Plan_rule, defBody s_Plan_rule, defScope s_Plan_rule, [], []⟩,
  ⟨fun K => He.ma K (He.ga K "Store") "__init__", "__init__", "Store.__init__", defArgs s_Store_init, defBody s_Store_init, defScope s_Store_init, [], []⟩,
  ⟨fun K => He.ma K (He.ga K "Store") "put", "put", "Store.put", defArgs s_Store_put, defBody s_Store_put, defScope s_Store_put, [], []⟩,
  ⟨fun K => He.ma K (He.ga K "Store") "sample", "sample", "Store.sample", defArgs s_Store_sample, defBody s_Store_sample, defScope s_Store_sample, [], []⟩,
  ⟨fun K => He.ma K (He.ga K "Store") "merged", "merged", "Store.merged", defArgs s_Store_merged, defBody s_Store_merged, defScope s_Store_merged, [], []⟩,
  ⟨fun K => He.ma K (He.ga K "Store") "view", "view", "Store.view", defArgs s_Store_view, defBody s_Store_view, defScope s_Store_view, [], []⟩,
  ⟨fun K => He.ma K (He.ga K "Explorer") "__init__", "__init__", "Explorer.__init__", defArgs s_Explorer_init, defBody s_Explorer_init, defScope s_Explorer_init, [], []⟩,
  ⟨fun K => He.ma K (He.ga K "Explorer") "advance", "advance", "Explorer.advance", defArgs s_Explorer_advance, defBody s_Explorer_advance, defScope s_Explorer_advance, [], []⟩,
  ⟨fun K => He.ma K (He.ga K "Explorer") "begin", "begin", "Explorer.begin", defArgs s_Explorer_begin, defBody s_Explorer_begin, defScope s_Explorer_begin, [], []⟩,
  ⟨fun K => He.ma K (He.ga K "Explorer") "pick", "pick", "Explorer.pick", defArgs s_Explorer_pick, defBody s_Explorer_pick, defScope s_Explorer_pick, [], []⟩,
  ⟨fun K => He.ma K (He.ga K "Explorer") "end", "end", "Explorer.end", defArgs s_Explorer_end, defBody s_Explorer_end, defScope s_Explorer_end, [], []⟩,
  ⟨fun K => He.ma K (He.ga K "Explorer") "gathered", "gathered", "Explorer.gathered", defArgs s_Explorer_gathered, defBody s_Explorer_gathered, defScope s_Explorer_gathered, [], []⟩]
/-! ### the hook -/
def obsS (K : PySem.W.Frag) : He.AlD := ((exL K).all id && fnL.all fun d => d.ok K, fnL.map fun d => He5.fnA K (d.at_ K))
def valS : He.AlD := (true, fnL.map He5.DefA.val)
def codeO (o : Obj) : Bool := match o.cls with
  | .type n => n == "code"
  | _ => false
def growS (g : Addr → Option Obj) (as : List Addr) : List Addr := (as ++ as.flatMap fun a => match g a with
  | some o => (match codeO o with
    | true => []
    | false => He.refsD o)
  | none => []).eraseDups
def namesS : List Str := ["is_name", "lowest", "plus", "times", "less", "sum_of", "are_chances", "law_from", "check_size", "check_keys", "check_plan", "empty_sample", "single_sample", "same_plan", "_law_draws", "_law_take", "_law_stream", "_law_mixed", "_law_gathered", "_law_plain", "law", "Uniform", "Weighted", "Plan", "Store", "Explorer", "NOTHING_ratios", "ONE_ratios", "KINDS"]
/-- what is looked at: the module's own names, what they reach -/
def asS (g : Addr → Option Obj) : List Addr := let K0 := He.frG g [mainGlobals]
  mainGlobals :: PySem.cStatics :: growS g (growS g (growS g (growS g (namesS.map (He.ga K0)))))
def obsSG (g : Addr → Option Obj) : He.AlD := obsS (He.frG g (asS g))
def hookS : PySem.W.Hook where
  α := He.AlD
  obs := fun s => obsSG s.heap.get?
  val := fun _ => valS
  says := fun _ h => ∃ K : PySem.W.Frag, K.In h ∧ obsS K = valS
  of := fun _ _ e => ⟨_, He.frG_in, e⟩
  keeps := fun _ _ _ ⟨K, hK, c⟩ k => ⟨K, PySem.W.Frag.In.keeps hK k, c⟩
theorem obsSG_eq {g : Addr → Option Obj} {s : Shared} (h : ∀ a, g a = s.heap.get? a) : obsSG g = hookS.obs s := by
  have e : g = s.heap.get? := funext h
  rw [e] <;> rfl
section
variable {K : PySem.W.Frag}
theorem says_fact (c : obsS K = valS) (i : Nat) {b : Bool} (h : (exL K)[i]? = some b := by rfl) : b = true := by
  have c1 := (He.ba (show ((exL K).all id && fnL.all fun d => d.ok K) = true from congrArg (fun z : He.AlD => z.1) c)).1
  exact List.all_eq_true.mp c1 b (List.mem_of_getElem? h)
theorem says_def (c : obsS K = valS) (i : Nat) {d : He5.DefA} (h : fnL[i]? = some d := by rfl) : ∃ fd, L2.FunD K d.name d.qual d.params d.body d.scope (d.dvs K) (d.kws K) (d.at_ K) fd := by
  have c2 := (He.ba (show ((exL K).all id && fnL.all fun d => d.ok K) = true from congrArg (fun z : He.AlD => z.1) c)).2
  have e : fnL.map (fun d => He5.fnA K (d.at_ K)) = fnL.map He5.DefA.val := congrArg (fun z : He.AlD => z.2) c
  have e2 : (fnL.map fun d => He5.fnA K (d.at_ K))[i]? = (fnL.map He5.DefA.val)[i]? := by rw [e]
  rw [List.getElem?_map, List.getElem?_map, h] at e2
  exact He5.DefA.funD (Option.some.inj e2) (List.all_eq_true.mp c2 d (List.mem_of_getElem? h))
end
theorem tx_of {K : PySem.W.Frag} {h : Heap} {mg : Str → Option Value} (X : K.In h) (G : h.Ns mainGlobals mg) (s : obsS K = valS) : Tx K mg where
  g_is_name := by
    have c := says_fact s 0
    exact He.glo_ok X G c
  g_lowest := by
    have c := says_fact s 1
    exact He.glo_ok X G c
  g_plus := by
    have c := says_fact s 2
    exact He.glo_ok X G c
  g_times := by
    have c := says_fact s 3
    exact He.glo_ok X G c
  g_less := by
    have c := says_fact s 4
    exact He.glo_ok X G c
  g_sum_of := by
    have c := says_fact s 5
    exact He.glo_ok X G c
  g_are_chances := by
    have c := says_fact s 6
    exact He.glo_ok X G c
  g_law_from := by
    have c := says_fact s 7
    exact He.glo_ok X G c
  g_check_size := by
    have c := says_fact s 8
    exact He.glo_ok X G c
  g_check_keys := by
    have c := says_fact s 9
    exact He.glo_ok X G c
  g_check_plan := by
    have c := says_fact s 10
    exact He.glo_ok X G c
  g_empty_sample := by
    have c := says_fact s 11
    exact He.glo_ok X G c
  g_single_sample := by
    have c := says_fact s 12
    exact He.glo_ok X G c
  g_same_plan := by
    have c := says_fact s 13
    exact He.glo_ok X G c
  g_law_draws := by
    have c := says_fact s 14
    exact He.glo_ok X G c
  g_law_take := by
    have c := says_fact s 15
    exact He.glo_ok X G c
  g_law_stream := by
    have c := says_fact s 16
    exact He.glo_ok X G c
  g_law_mixed := by
    have c := says_fact s 17
    exact He.glo_ok X G c
  g_law_gathered := by
    have c := says_fact s 18
    exact He.glo_ok X G c
  g_law_plain := by
    have c := says_fact s 19
    exact He.glo_ok X G c
  g_law := by
    have c := says_fact s 20
    exact He.glo_ok X G c
  g_Uniform := by
    have c := says_fact s 21
    exact He.glo_ok X G c
  g_Weighted := by
    have c := says_fact s 22
    exact He.glo_ok X G c
  g_Plan := by
    have c := says_fact s 23
    exact He.glo_ok X G c
  g_Store := by
    have c := says_fact s 24
    exact He.glo_ok X G c
  g_Explorer := by
    have c := says_fact s 25
    exact He.glo_ok X G c
  g_NOTHING_ratios := by
    have c := says_fact s 26
    exact He.glo_ok X G c
  g_ONE_ratios := by
    have c := says_fact s 27
    exact He.glo_ok X G c
  g_KINDS := by
    have c := says_fact s 28
    exact He.glo_ok X G c
  t_NOTHING_ratios := by
    have c := says_fact s 29
    exact fun H => He.tupB_ok c H
  t_ONE_ratios := by
    have c := says_fact s 30
    exact fun H => He.tupB_ok c H
  t_KINDS := by
    have c := says_fact s 31
    exact fun H => He.tupB_ok c H
  i_MOST_SIZE_uniform := by
    have c := says_fact s 32
    exact He.int_ok X G c
  i_MOST_GROUPS := by
    have c := says_fact s 33
    exact He.int_ok X G c
  i_MOST_SIZE_store := by
    have c := says_fact s 34
    exact He.int_ok X G c
  i_MOST_RUNS := by
    have c := says_fact s 35
    exact He.int_ok X G c
  s_NAME_SIGNS := by
    have c := says_fact s 36
    exact He.str_ok X G c
  m_gcd := by
    have c := says_fact s 37
    exact PySem.W.mg_of X G (He.eqO_ok c)
  f_len := by
    have c := says_fact s 38
    exact He.free_ok X G c
  f_sorted := by
    have c := says_fact s 39
    exact He.free_ok X G c
  f_sum := by
    have c := says_fact s 40
    exact He.free_ok X G c
  f_range := by
    have c := says_fact s 41
    exact He.free_ok X G c
  f_list := by
    have c := says_fact s 42
    exact He.free_ok X G c
  f_tuple := by
    have c := says_fact s 43
    exact He.free_ok X G c
  f_min := by
    have c := says_fact s 44
    exact He.free_ok X G c
  f_abs := by
    have c := says_fact s 45
    exact He.free_ok X G c
  f_int := by
    have c := says_fact s 46
    exact He.free_ok X G c
  f_str := by
    have c := says_fact s 47
    exact He.free_ok X G c
  f_isinstance := by
    have c := says_fact s 48
    exact He.free_ok X G c
  f_all := by
    have c := says_fact s 49
    exact He.free_ok X G c
  f_any := by
    have c := says_fact s 50
    exact He.free_ok X G c
  f_reversed := by
    have c := says_fact s 51
    exact He.free_ok X G c
  f_dict := by
    have c := says_fact s 52
    exact He.free_ok X G c
  c_Uniform := by
    have c := says_fact s 53
    exact He.cls_ok c
  k_Uniform := by
    have c := says_fact s 54
    exact He.mkr_ok c
  n_Uniform_size := by
    have c := says_fact s 55
    exact He.noat_ok c
  n_Uniform_seen := by
    have c := says_fact s 56
    exact He.noat_ok c
  n_Uniform_kept := by
    have c := says_fact s 57
    exact He.noat_ok c
  cm_Uniform_empty := by
    have c := says_fact s 58
    exact He5.cmet_of (He.ba c).1 (He.ba c).2
  cm_Uniform_single := by
    have c := says_fact s 59
    exact He5.cmet_of (He.ba c).1 (He.ba c).2
  m_Uniform_check := by
    have c := says_fact s 60
    exact He.meth_ok c
  m_Uniform_merge := by
    have c := says_fact s 61
    exact He.meth_ok c
  m_Uniform_view := by
    have c := says_fact s 62
    exact He.meth_ok c
  c_Weighted := by
    have c := says_fact s 63
    exact He.cls_ok c
  k_Weighted := by
    have c := says_fact s 64
    exact He.mkr_ok c
  n_Weighted_size := by
    have c := says_fact s 65
    exact He.noat_ok c
  n_Weighted_total := by
    have c := says_fact s 66
    exact He.noat_ok c
  n_Weighted_kept := by
    have c := says_fact s 67
    exact He.noat_ok c
  cm_Weighted_empty := by
    have c := says_fact s 68
    exact He5.cmet_of (He.ba c).1 (He.ba c).2
  cm_Weighted_single := by
    have c := says_fact s 69
    exact He5.cmet_of (He.ba c).1 (He.ba c).2
  m_Weighted_check := by
    have c := says_fact s 70
    exact He.meth_ok c
  m_Weighted_merge := by
    have c := says_fact s 71
    exact He.meth_ok c
  m_Weighted_view := by
    have c := says_fact s 72
    exact He.meth_ok c
  c_Plan := by
    have c := says_fact s 73
    exact He.cls_ok c
  k_Plan := by
    have c := says_fact s 74
    exact He.mkr_ok c
  n_Plan_rules := by
    have c := says_fact s 75
    exact He.noat_ok c
  n_Plan_others := by
    have c := says_fact s 76
    exact He.noat_ok c
  m_Plan_place_of := by
    have c := says_fact s 77
    exact He.meth_ok c
  m_Plan_places := by
    have c := says_fact s 78
    exact He.meth_ok c
  m_Plan_rule := by
    have c := says_fact s 79
    exact He.meth_ok c
  c_Store := by
    have c := says_fact s 80
    exact He.cls_ok c
  k_Store := by
    have c := says_fact s 81
    exact He.mkr_ok c
  n_Store_plan := by
    have c := says_fact s 82
    exact He.noat_ok c
  n_Store_parts := by
    have c := says_fact s 83
    exact He.noat_ok c
  n_Store_samples := by
    have c := says_fact s 84
    exact He.noat_ok c
  m_Store_put := by
    have c := says_fact s 85
    exact He.meth_ok c
  m_Store_sample := by
    have c := says_fact s 86
    exact He.meth_ok c
  m_Store_merged := by
    have c := says_fact s 87
    exact He.meth_ok c
  m_Store_view := by
    have c := says_fact s 88
    exact He.meth_ok c
  c_Explorer := by
    have c := says_fact s 89
    exact He.cls_ok c
  k_Explorer := by
    have c := says_fact s 90
    exact He.mkr_ok c
  n_Explorer_path := by
    have c := says_fact s 91
    exact He.noat_ok c
  n_Explorer_at := by
    have c := says_fact s 92
    exact He.noat_ok c
  n_Explorer_chance := by
    have c := says_fact s 93
    exact He.noat_ok c
  n_Explorer_is_open := by
    have c := says_fact s 94
    exact He.noat_ok c
  n_Explorer_is_over := by
    have c := says_fact s 95
    exact He.noat_ok c
  n_Explorer_many := by
    have c := says_fact s 96
    exact He.noat_ok c
  n_Explorer_rows := by
    have c := says_fact s 97
    exact He.noat_ok c
  m_Explorer_advance := by
    have c := says_fact s 98
    exact He.meth_ok c
  m_Explorer_begin := by
    have c := says_fact s 99
    exact He.meth_ok c
  m_Explorer_pick := by
    have c := says_fact s 100
    exact He.meth_ok c
  m_Explorer_end := by
    have c := says_fact s 101
    exact He.meth_ok c
  m_Explorer_gathered := by
    have c := says_fact s 102
    exact He.meth_ok c
  cr_Uniform := by
    have c := says_fact s 103
    exact ⟨(He.ba c).1, He.eqO_ok (He.ba c).2⟩
  is_Uniform := by
    have c := says_fact s 104
    exact ⟨He.cls_ok (He.ba c).1, He.eqO_ok (He.ba (He.ba c).2).1, He.eqO_ok (He.ba (He.ba (He.ba c).2).2).1, of_decide_eq_true (He.ba (He.ba (He.ba (He.ba c).2).2).2).1, of_decide_eq_true (He.ba (He.ba (He.ba (He.ba (He.ba c).2).2).2).2).1, of_decide_eq_true (He.ba (He.ba (He.ba (He.ba (He.ba c).2).2).2).2).2⟩
  cr_Weighted := by
    have c := says_fact s 105
    exact ⟨(He.ba c).1, He.eqO_ok (He.ba c).2⟩
  is_Weighted := by
    have c := says_fact s 106
    exact ⟨He.cls_ok (He.ba c).1, He.eqO_ok (He.ba (He.ba c).2).1, He.eqO_ok (He.ba (He.ba (He.ba c).2).2).1, of_decide_eq_true (He.ba (He.ba (He.ba (He.ba c).2).2).2).1, of_decide_eq_true (He.ba (He.ba (He.ba (He.ba (He.ba c).2).2).2).2).1, of_decide_eq_true (He.ba (He.ba (He.ba (He.ba (He.ba c).2).2).2).2).2⟩
  d_is_name := by
    obtain ⟨fd, e⟩ := says_def s 0
    exact ⟨fd, He5.fun_of e⟩
  d_lowest := by
    obtain ⟨fd, e⟩ := says_def s 1
    exact ⟨fd, He5.fun_of e⟩
  d_plus := by
    obtain ⟨fd, e⟩ := says_def s 2
    exact ⟨fd, He5.fun_of e⟩
  d_times := by
    obtain ⟨fd, e⟩ := says_def s 3
    exact ⟨fd, He5.fun_of e⟩
  d_less := by
    obtain ⟨fd, e⟩ := says_def s 4
    exact ⟨fd, He5.fun_of e⟩
  d_sum_of := by
    obtain ⟨fd, e⟩ := says_def s 5
    exact ⟨fd, He5.fun_of e⟩
  d_are_chances := by
    obtain ⟨fd, e⟩ := says_def s 6
    exact ⟨fd, He5.fun_of e⟩
  d_l_from := by
    obtain ⟨fd, e⟩ := says_def s 7
    exact ⟨fd, He5.fun_of e⟩
  d_check_size := by
    obtain ⟨fd, e⟩ := says_def s 8
    exact ⟨fd, He5.fun_of e⟩
  d_check_keys := by
    obtain ⟨fd, e⟩ := says_def s 9
    exact ⟨fd, He5.fun_of e⟩
  d_check_plan := by
    obtain ⟨fd, e⟩ := says_def s 10
    exact ⟨fd, He5.fun_of e⟩
  d_empty_sample := by
    obtain ⟨fd, e⟩ := says_def s 11
    exact ⟨fd, He5.fun_of e⟩
  d_single_sample := by
    obtain ⟨fd, e⟩ := says_def s 12
    exact ⟨fd, He5.fun_of e⟩
  d_same_plan := by
    obtain ⟨fd, e⟩ := says_def s 13
    exact ⟨fd, He5.fun_of e⟩
  d_l_draws := by
    obtain ⟨fd, e⟩ := says_def s 14
    exact ⟨fd, He5.fun_of e⟩
  d_l_take := by
    obtain ⟨fd, e⟩ := says_def s 15
    exact ⟨fd, He5.fun_of e⟩
  d_l_stream := by
    obtain ⟨fd, e⟩ := says_def s 16
    exact ⟨fd, He5.fun_of e⟩
  d_l_mixed := by
    obtain ⟨fd, e⟩ := says_def s 17
    exact ⟨fd, He5.fun_of e⟩
  d_l_gathered := by
    obtain ⟨fd, e⟩ := says_def s 18
    exact ⟨fd, He5.fun_of e⟩
  d_l_plain := by
    obtain ⟨fd, e⟩ := says_def s 19
    exact ⟨fd, He5.fun_of e⟩
  d_law := by
    obtain ⟨fd, e⟩ := says_def s 20
    exact ⟨fd, He5.fun_of e⟩
  d_Uniform_init := by
    obtain ⟨fd, e⟩ := says_def s 21
    exact ⟨fd, He5.fun_of e⟩
  d_Uniform_empty := by
    obtain ⟨fd, e⟩ := says_def s 22
    exact ⟨fd, He5.fun_of e⟩
  d_Uniform_single := by
    obtain ⟨fd, e⟩ := says_def s 23
    exact ⟨fd, He5.fun_of e⟩
  d_Uniform_check := by
    obtain ⟨fd, e⟩ := says_def s 24
    exact ⟨fd, He5.fun_of e⟩
  d_Uniform_merge := by
    obtain ⟨fd, e⟩ := says_def s 25
    exact ⟨fd, He5.fun_of e⟩
  d_Uniform_view := by
    obtain ⟨fd, e⟩ := says_def s 26
    exact ⟨fd, He5.fun_of e⟩
  d_Weighted_init := by
    obtain ⟨fd, e⟩ := says_def s 27
    exact ⟨fd, He5.fun_of e⟩
  d_Weighted_empty := by
    obtain ⟨fd, e⟩ := says_def s 28
    exact ⟨fd, He5.fun_of e⟩
  d_Weighted_single := by
    obtain ⟨fd, e⟩ := says_def s 29
    exact ⟨fd, He5.fun_of e⟩
  d_Weighted_check := by
    obtain ⟨fd, e⟩ := says_def s 30
    exact ⟨fd, He5.fun_of e⟩
  d_Weighted_merge := by
    obtain ⟨fd, e⟩ := says_def s 31
    exact ⟨fd, He5.fun_of e⟩
  d_Weighted_view := by
    obtain ⟨fd, e⟩ := says_def s 32
    exact ⟨fd, He5.fun_of e⟩
  d_Plan_init := by
    obtain ⟨fd, e⟩ := says_def s 33
    exact ⟨fd, He5.fun_of e⟩
  d_Plan_place_of := by
    obtain ⟨fd, e⟩ := says_def s 34
    exact ⟨fd, He5.fun_of e⟩
  d_Plan_places := by
    obtain ⟨fd, e⟩ := says_def s 35
    exact ⟨fd, He5.fun_of e⟩
  d_Plan_rule := by
    obtain ⟨fd, e⟩ := says_def s 36
    exact ⟨fd, He5.fun_of e⟩
  d_Store_init := by
    obtain ⟨fd, e⟩ := says_def s 37
    exact ⟨fd, He5.fun_of e⟩
  d_Store_put := by
    obtain ⟨fd, e⟩ := says_def s 38
    exact ⟨fd, He5.fun_of e⟩
  d_Store_sample := by
    obtain ⟨fd, e⟩ := says_def s 39
    exact ⟨fd, He5.fun_of e⟩
  d_Store_merged := by
    obtain ⟨fd, e⟩ := says_def s 40
    exact ⟨fd, He5.fun_of e⟩
  d_Store_view := by
    obtain ⟨fd, e⟩ := says_def s 41
    exact ⟨fd, He5.fun_of e⟩
  d_Explorer_init := by
    obtain ⟨fd, e⟩ := says_def s 42
    exact ⟨fd, He5.fun_of e⟩
  d_Explorer_advance := by
    obtain ⟨fd, e⟩ := says_def s 43
    exact ⟨fd, He5.fun_of e⟩
  d_Explorer_begin := by
    obtain ⟨fd, e⟩ := says_def s 44
    exact ⟨fd, He5.fun_of e⟩
  d_Explorer_pick := by
    obtain ⟨fd, e⟩ := says_def s 45
    exact ⟨fd, He5.fun_of e⟩
  d_Explorer_end := by
    obtain ⟨fd, e⟩ := says_def s 46
    exact ⟨fd, He5.fun_of e⟩
  d_Explorer_gathered := by
    obtain ⟨fd, e⟩ := says_def s 47
    exact ⟨fd, He5.fun_of e⟩
end Sam

set_option maxHeartbeats 0
namespace SamHead
open PySem PySem.W PySem.Calls PyProof.Rows HandSHeadRun
abbrev R : OpenRow := OpenLaw.row PySem.Challenge.rw_samphire_k63_whole_stores_have_one_law
abbrev qv : Program := view R.prog [0, 67]
def names1 : List PySem.Str := ["_wall", "__name__", "SamphireError", "TooLarge", "InvalidSize", "SharedKey", "SharedPart", "InvalidPlan", "WrongKind", "ZeroDenominator", "InvalidLaw", "NotEnded", "OtherPlan", "SMALL", "NAME_SIGNS", "is_name", "NOTHING_ratios", "ONE_ratios", "lowest", "plus", "minus", "times", "over", "less", "sum_of", "are_chances", "law_from"]
def names2 : List PySem.Str := ["MOST_SIZE_uniform", "check_size", "check_keys", "Uniform", "NOTHING_optimal", "ONE_optimal", "greater", "threshold", "keep_chance", "whole_weights", "drop_one", "Optimal", "Weighted", "MOST_GROUPS", "MOST_SIZE_store", "KINDS", "check_plan", "Plan", "empty_sample", "single_sample", "same_plan", "Store", "MOST_RUNS", "Explorer", "_law_draws", "_law_take", "_law_stream", "_law_mixed", "_law_gathered", "_law_plain"]
def names : List PySem.Str := names1 ++ names2
theorem o1 (w : World) : (wholeF (fun p => stepQ (denQ tabQ) p w) fenceQ 20000 R.prog).map (fun x => (looksF R.prog x.1.heap x.2.abs, seenQ qv names (importedModules R.prog.main.body) (fun s => xlAt qv [] s && recOk R.toRowW.records s) x.2.abs)) = some (true, openGood qv names) := by kernel_rfl
theorem o2 (w : World) : (wholeF (fun p => stepQ (denQ tabQ) p w) fenceQ 20000 R.prog).map (fun x => Sam.obsSG (getT x.2)) = some Sam.valS := by kernel_rfl
end SamHead

set_option maxHeartbeats 4000000
namespace Sam
open PySem PySem.Spec PyProof.Rows L2
/-! ### callees -/
section
variable (P : Program) (w : World) (K : PySem.W.Frag) (mg : Str → Option Value) (base : Heap)
/-- the module's def x keeps sp, by at most level k -/
structure Cal (k : Nat) (x : Str) (ps : List Str) (sp : Sp) : Prop where
  ex : ∃ f fd, mg x = some (.ref f) ∧ PySem.W.keepIn K (.ref f) = true ∧ Binds K fd ps [] ∧ FnOk P w K mg base CX0 k f fd ps sp
/-- the method m of the class C -/
structure CalM (k : Nat) (C : Addr) (m : Str) (ps : List Str) (sp : Sp) : Prop where
  cl : Cls K C
  ex : ∃ f fd, Meth K C m f ∧ Binds K fd ps [] ∧ FnOk P w K mg base CX0 k f fd ps sp
/-- the class x at C, made by an __init__ -/
structure CalI (k : Nat) (x : Str) (C : Addr) (ps : List Str) (sp : Sp) : Prop where
  at_ : mg x = some (.ref C)
  ex : ∃ f fd, Mk K C f ∧ Binds K fd ps [] ∧ FnOk P w K mg base CX0 k f fd ps sp
end
section
variable {P : Program} {w : World} {K : PySem.W.Frag} {mg : Str → Option Value} {base : Heap}
theorem Cal.mono {j k : Nat} {x : Str} {ps : List Str} {sp : Sp} (c : Cal P w K mg base j x ps sp) (h : j ≤ k) : Cal P w K mg base k x ps sp := by
  obtain ⟨f, fd, a, b, d, e⟩ := c.ex
  exact ⟨f, fd, a, b, d, e.mono h⟩
end
section
variable {X : Cx} {k j : Nat} {x m : Str} {C : Addr} {ps : List Str} {sp : Sp} {e o : Expr} {es : List Expr} {t : TA} {ta : TE} {p pos apos : Pos}
/-- f(e, ..) -/
theorem pe_f (c : Cal X.prog X.w X.K X.mg X.base k x ps sp) (hr : Room j X.A) (hg : Gl X x) (ha : PA X (e :: es) t) (hk : k ≤ j := by decide) (hdb : (x == ("__debug__" : Str)) = false := by decide)
    (he : starEach (e :: es) X.env = (false, eval e X.env) :: starEach es X.env := by rfl) (hpl : (backTo pos (starEach es X.env)).any (·.1) = false := by rfl) : PE X (.Call (.Name x p) (e :: es) [] pos) (tCall sp [] E0 t) := by
  obtain ⟨f, fd, m, kp, b, G⟩ := c.ex
  exact pe_call G (hr.mono hk) hg m kp b .nil pass0 ha hdb he hpl
/-- C(e, ..) -/
theorem pe_mk' (c : CalI X.prog X.w X.K X.mg X.base k x C ps sp) (hr : Room j X.A) (hg : Gl X x) (ha : PA X (e :: es) t) (hk : k + 1 ≤ j := by decide) (hdb : (x == ("__debug__" : Str)) = false := by decide)
    (he : starEach (e :: es) X.env = (false, eval e X.env) :: starEach es X.env := by rfl) (hpl : (backTo pos (starEach es X.env)).any (·.1) = false := by rfl) : PE X (.Call (.Name x p) (e :: es) [] pos) (tMake C sp [] E0 t) := by
  obtain ⟨f, fd, M, b, G⟩ := c.ex
  exact pe_make M G (hr.mono hk) hg c.at_ b .nil pass0 ha hdb he hpl
theorem pe_mk0 (c : CalI X.prog X.w X.K X.mg X.base k x C ps sp) (hr : Room j X.A) (hg : Gl X x) (hk : k + 1 ≤ j := by decide) (hdb : (x == ("__debug__" : Str)) = false := by decide) : PE X (.Call (.Name x p) [] [] pos) (tMake C sp [] E0 tNil) := by
  obtain ⟨f, fd, M, b, G⟩ := c.ex
  exact pe_make0 M G (hr.mono hk) hg c.at_ b .nil pass0 hdb
/-- o.m(e, ..) -/
theorem pe_m {pl : Sem Bool} (he : PE X o ta) (c : CalM X.prog X.w X.K X.mg X.base k C m ps sp) (hr : Room j X.A) (ha : PA X (e :: es) t) (hk : k ≤ j := by decide)
    (hst : starEach (e :: es) X.env = (false, eval e X.env) :: starEach es X.env := by rfl) (hpl : (backTo pos (starEach es X.env)).any (·.1) = false := by rfl)
    (ht : eval (.Call (.Attribute o m apos) (e :: es) [] pos) X.env = (do
      let ov ← eval o X.env
      standAt apos.atName
      let (f, first) ← holding [ov] (getMethod ov m pl)
      callWith pos f first (backTo pos (starEach (e :: es) X.env)) (backToKw pos (keywordEach [] X.env))) := by rfl) :
    PE X (.Call (.Attribute o m apos) (e :: es) [] pos) (tMeth C m sp [] E0 ta t) := by
  obtain ⟨f, fd, M, b, G⟩ := c.ex
  exact pe_meth he c.cl M G (hr.mono hk) b .nil pass0 ha hst hpl ht
/-- o.m() -/
theorem pe_m0 {pl : Sem Bool} (he : PE X o ta) (c : CalM X.prog X.w X.K X.mg X.base k C m ps sp) (hr : Room j X.A) (hk : k ≤ j := by decide)
    (ht : eval (.Call (.Attribute o m apos) [] [] pos) X.env = (do
      let ov ← eval o X.env
      standAt apos.atName
      let (f, first) ← holding [ov] (getMethod ov m pl)
      callWith pos f first (backTo pos (starEach [] X.env)) (backToKw pos (keywordEach [] X.env))) := by rfl) :
    PE X (.Call (.Attribute o m apos) [] [] pos) (tMeth C m sp [] E0 ta tNil) := by
  obtain ⟨f, fd, M, b, G⟩ := c.ex
  exact pe_meth0 he c.cl M G (hr.mono hk) b .nil pass0 ht
/-- two readings of one expression -/
theorem pe_or2 {a : Expr} {t1 t2 : TE} (h1 : PE X a t1) (h2 : PE X a t2) : PE X a (fun σ H Q => t1 σ H Q ∨ t2 σ H Q) :=
  ⟨fun pins s σ H Q I h => h.elim (h1.run pins s σ H Q I) (h2.run pins s σ H Q I)⟩
end
/-! ### fractions -/
/-- v is the pair of the rational x -/
def Fr (K : PySem.W.Frag) (H : Hp) (v : V) (x : Rat) : Prop := ∃ a, v = .ref a ∧ SqT K H a [.int x.num, .int x.den]
theorem Same.seqT {K : PySem.W.Frag} {H H' : Hp} {a : Addr} {xs : List V} (e : Same H H') (h : SqT K H a xs) : SqT K H' a xs := by
  rcases h with (h | ⟨o, h⟩) | h
  · exact .inl (.inl (e _ _ h))
  · exact .inl (.inr ⟨o, e _ _ h⟩)
  · exact .inr h
theorem Fr.same {K : PySem.W.Frag} {H H' : Hp} {v : V} {x : Rat} (h : Fr K H v x) (e : Same H H') : Fr K H' v x := let ⟨a, p, q⟩ := h; ⟨a, p, Same.seqT e q⟩
theorem same_new {H : Hp} {p : Addr} {o : HO} (h : H p = none) : Same H (upd H p o) := fun b u e => by rw [upd_ne (ne_of_none e h)]; exact e
theorem Fr.new {K : PySem.W.Frag} {H : Hp} {p : Addr} {x : Rat} : Fr K (upd H p (.tup [.int x.num, .int x.den])) (.ref p) x := ⟨p, rfl, .inl (.inl upd_same)⟩
end Sam

set_option maxHeartbeats 4000000
namespace Sam
open PySem PySem.Spec PyProof.Rows L2
/-! ### rationals as pairs -/
theorem divInt_num {p q : Int} (hq : 0 < q) : (Rat.divInt p q).num = p / ((Nat.gcd p.natAbs q.natAbs : Nat) : Int) := by
  rw [Rat.num_divInt, Int.sign_eq_one_of_pos hq, Int.one_mul, Int.gcd, Nat.gcd_comm]
theorem divInt_den {p q : Int} (hq : 0 < q) : (((Rat.divInt p q).den : Nat) : Int) = q / ((Nat.gcd p.natAbs q.natAbs : Nat) : Int) := by
  rw [Rat.den_divInt, if_neg (by omega), Int.gcd, Nat.gcd_comm q.natAbs, Int.natCast_ediv, Int.natAbs_of_nonneg (by omega)]
theorem divInt_mul' (a b : Rat) : Rat.divInt (a.num * b.num) (a.den * b.den) = a * b := by
  rw [← Rat.divInt_mul_divInt, Rat.num_divInt_den, Rat.num_divInt_den]
theorem divInt_add' (a b : Rat) : Rat.divInt (a.num * b.den + b.num * a.den) (a.den * b.den) = a + b := by
  rw [← Rat.divInt_add_divInt a.num b.num (d₁ := a.den) (d₂ := b.den) (by have := a.den_pos; omega) (by have := b.den_pos; omega), Rat.num_divInt_den a, Rat.num_divInt_den]
/-- both numbers below 2 ^ n -/
def Sz (x : Rat) (n : Nat) : Prop := x.num.natAbs < 2 ^ n ∧ x.den < 2 ^ n
theorem divInt_le_num (p q : Int) : (Rat.divInt p q).num.natAbs ≤ p.natAbs := by
  rw [Rat.num_divInt]
  rcases Int.lt_trichotomy q 0 with h | h | h
  · rw [Int.sign_eq_neg_one_of_neg h, Int.neg_one_mul]
    exact Nat.le_trans (Int.natAbs_ediv_le_natAbs _ _) (by rw [Int.natAbs_neg]; exact Nat.le_refl _)
  · subst h
    simp
  · rw [Int.sign_eq_one_of_pos h, Int.one_mul]
    exact Int.natAbs_ediv_le_natAbs _ _
theorem divInt_le_den {p q : Int} (hq : q ≠ 0) : (Rat.divInt p q).den ≤ q.natAbs := by
  rw [Rat.den_divInt, if_neg hq]
  exact Nat.div_le_self _ _
theorem Sz.mono {x : Rat} {m n : Nat} (h : Sz x m) (hm : m ≤ n) : Sz x n := ⟨Nat.lt_of_lt_of_le h.1 (Nat.pow_le_pow_right (by decide) hm), Nat.lt_of_lt_of_le h.2 (Nat.pow_le_pow_right (by decide) hm)⟩
theorem pow_split (a b : Nat) : 2 ^ (a + b + 1) = 2 ^ a * 2 ^ b + 2 ^ a * 2 ^ b := by
  rw [Nat.pow_succ, Nat.pow_add]
  omega
theorem Sz.mul {x y : Rat} {m n : Nat} (h : Sz x m) (h' : Sz y n) : Sz (x * y) (m + n) := by
  rw [← divInt_mul' x y]
  have e1 : (x.num * y.num).natAbs < 2 ^ (m + n) := by
    rw [Int.natAbs_mul, Nat.pow_add]
    exact Nat.mul_lt_mul'' h.1 h'.1
  have e2 : ((x.den : Int) * y.den).natAbs < 2 ^ (m + n) := by
    rw [Int.natAbs_mul, Nat.pow_add]
    exact Nat.mul_lt_mul'' h.2 h'.2
  exact ⟨Nat.lt_of_le_of_lt (divInt_le_num _ _) e1, Nat.lt_of_le_of_lt (divInt_le_den (Int.mul_ne_zero (by have := x.den_pos; omega) (by have := y.den_pos; omega))) e2⟩
theorem Sz.add {x y : Rat} {m n : Nat} (h : Sz x m) (h' : Sz y n) : Sz (x + y) (m + n + 1) := by
  rw [← divInt_add' x y]
  have e1 : (x.num * (y.den : Int)).natAbs < 2 ^ m * 2 ^ n := by
    rw [Int.natAbs_mul]
    exact Nat.mul_lt_mul'' h.1 h'.2
  have e2 : (y.num * (x.den : Int)).natAbs < 2 ^ m * 2 ^ n := by
    rw [Int.natAbs_mul, Nat.mul_comm]
    exact Nat.mul_lt_mul'' h.2 h'.1
  have e3 : ((x.den : Int) * y.den).natAbs < 2 ^ m * 2 ^ n := by
    rw [Int.natAbs_mul]
    exact Nat.mul_lt_mul'' h.2 h'.2
  rw [Sz, pow_split]
  refine ⟨Nat.lt_of_le_of_lt (divInt_le_num _ _) ?_, Nat.lt_of_le_of_lt (divInt_le_den (Int.mul_ne_zero (by have := x.den_pos; omega) (by have := y.den_pos; omega))) ?_⟩
  · exact Nat.lt_of_le_of_lt (Int.natAbs_add_le _ _) (by omega)
  · omega
theorem nat_dvd {d : Nat} {z : Int} (h : d ∣ z.natAbs) : (d : Int) ∣ z := Int.dvd_natAbs.mp (Int.natCast_dvd_natCast.mpr h)
theorem dvd_nat {d : Nat} {z : Int} (h : (d : Int) ∣ z) : d ∣ z.natAbs := Int.natCast_dvd_natCast.mp (Int.dvd_natAbs.mpr h)
/-- what is struck out of a sum is at most the square of the second denominator -/
theorem gcd_sum (x y : Rat) : Nat.gcd (x.num * y.den + y.num * x.den).natAbs ((x.den : Int) * y.den).natAbs ≤ y.den * y.den := by
  have hd := Nat.gcd_dvd_left (x.num * y.den + y.num * x.den).natAbs ((x.den : Int) * y.den).natAbs
  have hd' := Nat.gcd_dvd_right (x.num * y.den + y.num * x.den).natAbs ((x.den : Int) * y.den).natAbs
  generalize Nat.gcd (x.num * y.den + y.num * x.den).natAbs ((x.den : Int) * y.den).natAbs = d at hd hd' ⊢
  have z1 : (d : Int) ∣ x.num * y.den + y.num * x.den := nat_dvd hd
  have z2 : (d : Int) ∣ (x.den : Int) * y.den := nat_dvd hd'
  have z3 : (d : Int) ∣ x.num * (y.den * y.den) := by
    have a := Int.dvd_trans z1 (Int.dvd_mul_right _ (y.den : Int))
    have b := Int.dvd_trans z2 (Int.dvd_mul_right _ y.num)
    have e : x.num * ((y.den : Int) * y.den) = (x.num * y.den + y.num * x.den) * y.den - x.den * y.den * y.num := by grind
    rw [e]
    exact Int.dvd_sub a b
  have z4 : (d : Int) ∣ (x.den : Int) * (y.den * y.den) := by
    have b := Int.dvd_trans z2 (Int.dvd_mul_right _ (y.den : Int))
    rw [Int.mul_assoc] at b
    exact b
  have n3 : d ∣ x.num.natAbs * (y.den * y.den) := by
    have q := dvd_nat z3
    rw [Int.natAbs_mul] at q
    exact q
  have n4 : d ∣ x.den * (y.den * y.den) := by
    have q := dvd_nat z4
    rw [Int.natAbs_mul] at q
    exact q
  have n5 : d ∣ Nat.gcd (x.num.natAbs * (y.den * y.den)) (x.den * (y.den * y.den)) := Nat.dvd_gcd n3 n4
  rw [Nat.gcd_mul_right, x.reduced.gcd_eq_one, Nat.one_mul] at n5
  exact Nat.le_of_dvd (Nat.mul_pos y.den_pos y.den_pos) n5
/-! ### lowest -/
def spLowest : Sp := fun vs H Q _ => ∃ p q : Int, vs = [.int p, .int q] ∧ 0 < q ∧ Nat.gcd p.natAbs q.natAbs < 2 ^ 9000 ∧
  ∀ t, H t = none → Q (.ref t) (upd H t (.tup [.int (Rat.divInt p q).num, .int (Rat.divInt p q).den]))
section
variable {P : Program} {w : World} {K : PySem.W.Frag} {mg : Str → Option Value} {base : Heap}
theorem ok_lowest (T : Tx K mg) : Cal P w K mg base 1 "lowest" ["p", "q"] spLowest := by
  obtain ⟨fd, F⟩ := T.d_lowest
  refine ⟨_, fd, T.g_lowest, F.kp, F.binds (ps := ["p", "q"]) fun _ _ _ _ _ _ us hl => match us, hl with | [_, _], _ => rfl, F.ok sc_lowest (fun vs H Q E h => ?_) (fun cdv A outer s H vs Q E hr h => ?_)⟩
  · obtain ⟨p, q, rfl, _⟩ := h
    rfl
  · obtain ⟨p, q, rfl, hq, hg, k⟩ := h
    have nd := sc_lowest.nd
    refine ⟨_, pss_cons (ps_if (pt_cmpR op_eq (pv 1) pe_int (nomark _)) pss_never pss_nil)
      (pss_cons (ps_set (i := 2) nd rfl (.inl rfl) (pe_callBfun cr_gcd rfl T.m_gcd (pa_cons (pv 0) (pa_cons (pv 1) pa_nil))))
      (pss_cons (ps_if (pt_cmpR op_lt (pv 1) pe_int (nomark _)) pss_never pss_nil)
      (pss_one (ps_ret (pe_tup (pa_cons (pe_op op_fdivW (pv 0) (pv 2)) (pa_cons (pe_op op_fdivW (pv 1) (pv 2)) pa_nil))))))), ?_⟩
    have gp : (0 : Int) < ((Nat.gcd p.natAbs q.natAbs : Nat) : Int) := by
      have := Nat.gcd_pos_of_pos_right p.natAbs (show 0 < q.natAbs by omega)
      omega
    have wd : ∀ i : Int, CDivW i ((Nat.gcd p.natAbs q.natAbs : Nat) : Int) := fun i => wide_div gp (by rw [Int.natAbs_natCast]; exact hg) (by decide) (by decide)
    refine ⟨_, rfl, rfl, _, rfl, ?_⟩
    refine ite2 (fun e => ?_) (fun _ => ?_)
    · have e2 := of_decide_eq_true e
      injection e2 with e3
      omega
    refine ⟨_, rfl, _, rfl, p, q, rfl, ?_⟩
    refine ⟨_, rfl, _, _, rfl, rfl, _, rfl, ?_⟩
    refine ite2 (fun e => ?_) (fun _ => ?_)
    · have e2 := of_decide_eq_true e
      omega
    refine ⟨_, rfl, _, rfl, _, _, rfl, rfl, wd _, _, rfl, _, rfl, _, _, rfl, rfl, wd _, (by show 2 ≤ sizeLine; decide), fun t ht => ?_⟩
    have z := k t ht
    rw [divInt_num hq, divInt_den hq] at z
    exact z
end
end Sam

set_option maxHeartbeats 4000000
namespace Sam
open PySem PySem.Spec PyProof.Rows L2
theorem atI0 {v : V} {l : List V} : atI (v :: l) 0 = some v := atI_nat (j := 0) rfl
theorem atI1 {u v : V} {l : List V} : atI (u :: v :: l) 1 = some v := atI_nat (j := 1) rfl
theorem atI2 {u v x : V} {l : List V} : atI (u :: v :: x :: l) 2 = some x := atI_nat (j := 2) rfl
theorem den_nat (x : Rat) : ((x.den : Int)).natAbs = x.den := Int.natAbs_natCast _
theorem pos_of_sz {x : Rat} {m : Nat} (h : Sz x m) : 0 < m := by
  rcases Nat.eq_zero_or_pos m with e | e
  · subst e
    have := h.2
    have := x.den_pos
    omega
  · exact e
theorem pow_lt9 {a b : Nat} (h : a < 2 ^ b) (hb : b ≤ 9000) : a < 2 ^ 9000 := Nat.lt_of_lt_of_le h (Nat.pow_le_pow_right (by decide) hb)
def spTimes (K : PySem.W.Frag) : Sp := fun vs H Q _ => ∃ (a b : V) (x y : Rat) (m n : Nat), vs = [a, b] ∧ Fr K H a x ∧ Fr K H b y ∧ Sz x m ∧ Sz y n ∧ m + n ≤ 9000 ∧
  ∀ t, H t = none → Q (.ref t) (upd H t (.tup [.int (x * y).num, .int (x * y).den]))
def spPlus (K : PySem.W.Frag) : Sp := fun vs H Q _ => ∃ (a b : V) (x y : Rat) (m n : Nat), vs = [a, b] ∧ Fr K H a x ∧ Fr K H b y ∧ Sz x m ∧ Sz y n ∧ m + n ≤ 1000000 ∧ n + n ≤ 9000 ∧
  ∀ t, H t = none → Q (.ref t) (upd H t (.tup [.int (x + y).num, .int (x + y).den]))
def spLess (K : PySem.W.Frag) : Sp := fun vs H Q _ => ∃ (a b : V) (x y : Rat) (m n : Nat), vs = [a, b] ∧ Fr K H a x ∧ Fr K H b y ∧ Sz x m ∧ Sz y n ∧ m + n ≤ 1000000 ∧ Q (.bl (decide (x < y))) H
section
variable {P : Program} {w : World} {K : PySem.W.Frag} {mg : Str → Option Value} {base : Heap}
theorem ok_times (T : Tx K mg) : Cal P w K mg base 2 "times" ["a", "b"] (spTimes K) := by
  obtain ⟨fd, F⟩ := T.d_times
  refine ⟨_, fd, T.g_times, F.kp, F.binds (ps := ["a", "b"]) fun _ _ _ _ _ _ us hl => match us, hl with | [_, _], _ => rfl, F.ok sc_times (fun vs H Q E h => ?_) (fun cdv A outer s H vs Q E hr h => ?_)⟩
  · obtain ⟨a, b, x, y, m, n, rfl, _⟩ := h
    rfl
  · obtain ⟨a, b, x, y, m, n, rfl, ⟨pa, rfl, ha⟩, ⟨pb, rfl, hb⟩, sx, sy, hl, k⟩ := h
    refine ⟨_, pss_one (ps_ret (pe_f (ok_lowest T) hr rfl (pa_cons (pe_op op_mulW (pe_ix ix_tup (pv 0) pe_int (fun _ _ => rfl)) (pe_ix ix_tup (pv 1) pe_int (fun _ _ => rfl)))
      (pa_cons (pe_op op_mulW (pe_ix ix_tup (pv 0) pe_int (fun _ _ => rfl)) (pe_ix ix_tup (pv 1) pe_int (fun _ _ => rfl))) pa_nil)))), ?_⟩
    have px := pos_of_sz sx
    have py := pos_of_sz sy
    refine ⟨_, rfl, pa, _, _, _, rfl, rfl, ha, atI0, _, rfl, pb, _, _, _, rfl, rfl, hb, atI0, _, _, rfl, rfl, wide_mul sx.1 sy.1 px py (by omega), ?_⟩
    refine ⟨_, rfl, pa, _, _, _, rfl, rfl, ha, atI1, _, rfl, pb, _, _, _, rfl, rfl, hb, atI1, _, _, rfl, rfl, wide_mul (by rw [den_nat]; exact sx.2) (by rw [den_nat]; exact sy.2) px py (by omega), ?_⟩
    refine ⟨x.num * y.num, (x.den : Int) * y.den, rfl, Int.mul_pos (by have := x.den_pos; omega) (by have := y.den_pos; omega), pow_lt9 (b := m + n) ?_ hl, fun t ht => ?_⟩
    · refine Nat.lt_of_le_of_lt (Nat.gcd_le_right _ ?_) (wide_lt (by rw [den_nat]; exact sx.2) (by rw [den_nat]; exact sy.2))
      rw [Int.natAbs_mul, den_nat, den_nat]
      exact Nat.mul_pos x.den_pos y.den_pos
    · have z := k t ht
      rw [← divInt_mul'] at z
      exact z
theorem ok_plus (T : Tx K mg) : Cal P w K mg base 2 "plus" ["a", "b"] (spPlus K) := by
  obtain ⟨fd, F⟩ := T.d_plus
  refine ⟨_, fd, T.g_plus, F.kp, F.binds (ps := ["a", "b"]) fun _ _ _ _ _ _ us hl => match us, hl with | [_, _], _ => rfl, F.ok sc_plus (fun vs H Q E h => ?_) (fun cdv A outer s H vs Q E hr h => ?_)⟩
  · obtain ⟨a, b, x, y, m, n, rfl, _⟩ := h
    rfl
  · obtain ⟨a, b, x, y, m, n, rfl, ⟨pa, rfl, ha⟩, ⟨pb, rfl, hb⟩, sx, sy, hl, hl2, k⟩ := h
    refine ⟨_, pss_one (ps_ret (pe_f (ok_lowest T) hr rfl (pa_cons (pe_op op_add (pe_op op_mulW (pe_ix ix_tup (pv 0) pe_int (fun _ _ => rfl)) (pe_ix ix_tup (pv 1) pe_int (fun _ _ => rfl))) (pe_op op_mulW (pe_ix ix_tup (pv 1) pe_int (fun _ _ => rfl)) (pe_ix ix_tup (pv 0) pe_int (fun _ _ => rfl))))
      (pa_cons (pe_op op_mulW (pe_ix ix_tup (pv 0) pe_int (fun _ _ => rfl)) (pe_ix ix_tup (pv 1) pe_int (fun _ _ => rfl))) pa_nil)))), ?_⟩
    have px := pos_of_sz sx
    have py := pos_of_sz sy
    have dx : ((x.den : Int)).natAbs < 2 ^ m := by rw [den_nat]; exact sx.2
    have dy : ((y.den : Int)).natAbs < 2 ^ n := by rw [den_nat]; exact sy.2
    refine ⟨_, rfl, pa, _, _, _, rfl, rfl, ha, atI0, _, rfl, pb, _, _, _, rfl, rfl, hb, atI1, _, _, rfl, rfl, wide_mul sx.1 dy px py (by omega), ?_⟩
    refine ⟨_, rfl, pb, _, _, _, rfl, rfl, hb, atI0, _, rfl, pa, _, _, _, rfl, rfl, ha, atI1, _, _, rfl, rfl, wide_mul sy.1 dx py px (by omega), _, _, rfl, rfl, ?_⟩
    refine ⟨_, rfl, pa, _, _, _, rfl, rfl, ha, atI1, _, rfl, pb, _, _, _, rfl, rfl, hb, atI1, _, _, rfl, rfl, wide_mul dx dy px py (by omega), ?_⟩
    refine ⟨x.num * y.den + y.num * x.den, (x.den : Int) * y.den, rfl, Int.mul_pos (by have := x.den_pos; omega) (by have := y.den_pos; omega), pow_lt9 (b := n + n) ?_ hl2, fun t ht => ?_⟩
    · refine Nat.lt_of_le_of_lt (gcd_sum x y) ?_
      rw [Nat.pow_add]
      exact Nat.mul_lt_mul'' sy.2 sy.2
    · have z := k t ht
      rw [← divInt_add'] at z
      exact z
theorem ok_less (T : Tx K mg) : Cal P w K mg base 1 "less" ["a", "b"] (spLess K) := by
  obtain ⟨fd, F⟩ := T.d_less
  refine ⟨_, fd, T.g_less, F.kp, F.binds (ps := ["a", "b"]) fun _ _ _ _ _ _ us hl => match us, hl with | [_, _], _ => rfl, F.ok sc_less (fun vs H Q E h => ?_) (fun cdv A outer s H vs Q E hr h => ?_)⟩
  · obtain ⟨a, b, x, y, m, n, rfl, _⟩ := h
    rfl
  · obtain ⟨a, b, x, y, m, n, rfl, ⟨pa, rfl, ha⟩, ⟨pb, rfl, hb⟩, sx, sy, hl, k⟩ := h
    refine ⟨_, pss_one (ps_ret (pe_cmpR op_lt (pe_op op_mulW (pe_ix ix_tup (pv 0) pe_int (fun _ _ => rfl)) (pe_ix ix_tup (pv 1) pe_int (fun _ _ => rfl))) (pe_op op_mulW (pe_ix ix_tup (pv 1) pe_int (fun _ _ => rfl)) (pe_ix ix_tup (pv 0) pe_int (fun _ _ => rfl))) (nomark _))), ?_⟩
    have px := pos_of_sz sx
    have py := pos_of_sz sy
    have dx : ((x.den : Int)).natAbs < 2 ^ m := by rw [den_nat]; exact sx.2
    have dy : ((y.den : Int)).natAbs < 2 ^ n := by rw [den_nat]; exact sy.2
    refine ⟨_, rfl, pa, _, _, _, rfl, rfl, ha, atI0, _, rfl, pb, _, _, _, rfl, rfl, hb, atI1, _, _, rfl, rfl, wide_mul sx.1 dy px py (by omega), ?_⟩
    refine ⟨_, rfl, pb, _, _, _, rfl, rfl, hb, atI0, _, rfl, pa, _, _, _, rfl, rfl, ha, atI1, _, _, rfl, rfl, wide_mul sy.1 dx py px (by omega), _, _, rfl, rfl, ?_⟩
    have e : decide (x < y) = decide (x.num * y.den < y.num * x.den) := decide_eq_decide.mpr (Rat.lt_iff x y)
    rw [e] at k
    exact k
/-! ### sums -/
abbrev FrL (K : PySem.W.Frag) (H : Hp) : List V → List Rat → Prop := Paired (Fr K H)
theorem Paired.len {α β : Type} {F : α → β → Prop} : ∀ {xs : List α} {ys : List β}, Paired F xs ys → xs.length = ys.length
  | _, _, .nil => rfl
  | _, _, .cons _ t => congrArg (· + 1) (Paired.len t)
theorem Paired.at_ {α β : Type} {F : α → β → Prop} : ∀ {xs : List α} {ys : List β}, Paired F xs ys → ∀ {i : Nat} {x : α}, xs[i]? = some x → ∃ y, ys[i]? = some y ∧ F x y
  | _, _, .nil, _, _, h => by simp at h
  | _, _, .cons r t, 0, _, h => by
    simp at h
    subst h
    exact ⟨_, rfl, r⟩
  | _, _, .cons _ t, i + 1, x, h => Paired.at_ t (i := i) (by simpa using h)
theorem FrL.same {K : PySem.W.Frag} {H H' : Hp} {vs : List V} {xs : List Rat} (h : FrL K H vs xs) (e : Same H H') : FrL K H' vs xs := L2.Paired.mapP h fun _ _ q => q.same e
end
end Sam

set_option maxHeartbeats 4000000
namespace Sam
open PySem PySem.Spec PyProof.Rows L2
/-- the sum, from the left -/
def qsum (xs : List Rat) : Rat := xs.foldl (· + ·) 0
theorem qsum_take {xs : List Rat} {i : Nat} {x : Rat} (h : xs[i]? = some x) : qsum (xs.take (i + 1)) = qsum (xs.take i) + x := by
  unfold qsum
  rw [List.take_add_one, h, Option.toList_some, List.foldl_append]
  rfl
theorem sz0 : Sz 0 1 := ⟨by decide, by decide⟩
theorem sz_take {n : Nat} : ∀ (xs : List Rat), (∀ x ∈ xs, Sz x n) → ∀ i, i ≤ xs.length → Sz (qsum (xs.take i)) (i * (n + 1) + 1) := fun xs h i => by
  induction i with
  | zero => exact fun _ => sz0.mono (by omega)
  | succ i ih =>
    intro hi
    have e : xs[i]? = some (xs[i]'(by omega)) := List.getElem?_eq_getElem (by omega)
    rw [qsum_take e]
    refine ((ih (by omega)).add (h _ (List.getElem_mem (by omega)))).mono ?_
    rw [Nat.succ_mul]
    omega
theorem mul_le_of {i N k : Nat} (h : i ≤ N) : i * k ≤ N * k := Nat.mul_le_mul_right k h
def spSum (K : PySem.W.Frag) : Sp := fun vs H Q _ => ∃ (a : Addr) (us : List V) (xs : List Rat) (n : Nat), vs = [.ref a] ∧ SqL K H a us ∧ FrL K H us xs ∧ (∀ x ∈ xs, Sz x n) ∧ xs.length * (n + 1) + n + 1 ≤ 1000000 ∧ n + n ≤ 9000 ∧
  ∀ v H', Same H H' → Fr K H' v (qsum xs) → Q v H'
section
variable {P : Program} {w : World} {K : PySem.W.Frag} {mg : Str → Option Value} {base : Heap}
theorem fr_nothing (T : Tx K mg) (H : Hp) : Fr K H (.ref (He.ga K "NOTHING_ratios")) 0 := ⟨_, rfl, T.t_NOTHING_ratios H⟩
theorem fr_one (T : Tx K mg) (H : Hp) : Fr K H (.ref (He.ga K "ONE_ratios")) 1 := ⟨_, rfl, T.t_ONE_ratios H⟩
theorem ok_sum_of (T : Tx K mg) : Cal P w K mg base 3 "sum_of" ["fractions"] (spSum K) := by
  obtain ⟨fd, F⟩ := T.d_sum_of
  refine ⟨_, fd, T.g_sum_of, F.kp, F.binds (ps := ["fractions"]) fun _ _ _ _ _ _ us hl => match us, hl with | [_], _ => rfl, F.ok sc_sum_of (fun vs H Q E h => ?_) (fun cdv A outer s H vs Q E hr h => ?_)⟩
  · obtain ⟨a, us, xs, n, rfl, _⟩ := h
    rfl
  · obtain ⟨a, us, xs, n, rfl, hL, hF, hs, hb, hn, k⟩ := h
    have nd := sc_sum_of.nd
    refine ⟨_, pss_cons (ps_set (i := 1) nd rfl (.inl rfl) (pe_glob rfl T.g_NOTHING_ratios (v := .ref _) rfl))
      (pss_cons (ps_for PassesOwn.never rfl (pi_list (pv 0)) (pg_name (i := 2) nd rfl (.inl rfl)) (pss_one (ps_set (i := 1) nd rfl (.inl rfl) (pe_f (ok_plus T) hr rfl (pa_cons (pv 1) (pa_cons (pv 2) pa_nil))))))
      (pss_one (ps_ret (pv 1)))), ?_⟩
    refine ⟨_, rfl, a, rfl, ⟨_, hL⟩, for_list (K := K) (a := a) (xs := us) (fun i σ H' => ∃ (v : V) (u : Option V), σ = [some (.ref a), some v, u] ∧ Same H H' ∧ Fr K H' v (qsum (xs.take i)))
      ⟨_, none, rfl, Same.refl H, fr_nothing T H⟩ (fun i σ H' _ ⟨_, _, _, s2, _⟩ => s2.seq hL) ?_ ?_⟩
    · rintro i y σ H' hi ⟨v, u, rfl, s2, fv⟩
      obtain ⟨x, hx, fx⟩ := Paired.at_ hF hi
      have hil : i < xs.length := (List.getElem?_eq_some_iff.mp hx).1
      have q := mul_le_of (k := n + 1) (Nat.le_of_lt hil)
      refine ⟨_, rfl, _, rfl, v, y, qsum (xs.take i), x, _, n, rfl, fv, fx.same s2, sz_take xs hs i (Nat.le_of_lt hil), hs x (List.mem_of_getElem? hx), by omega, hn, fun t ht => ?_⟩
      refine ⟨.ref t, _, rfl, s2.trans (same_new ht), ?_⟩
      rw [qsum_take hx]
      exact Fr.new
    · rintro σ H' ⟨v, u, rfl, s2, fv⟩
      have e : us.length = xs.length := Paired.len hF
      rw [e, List.take_length] at fv
      exact ⟨_, rfl, k v H' s2 fv⟩
/-- .. the rows sum up to one -/
def spAre (K : PySem.W.Frag) : Sp := fun vs H Q _ => ∃ (a : Addr) (us : List V) (xs : List Rat) (n : Nat), vs = [.ref a] ∧ SqL K H a us ∧ FrL K H us xs ∧ (∀ x ∈ xs, Sz x n) ∧ (∀ x ∈ xs, 0 ≤ x) ∧ qsum xs = 1 ∧ xs.length * (n + 1) + n + 1 ≤ 1000000 ∧ n + n ≤ 9000 ∧
  ∀ H', Same H H' → Q (.bl true) H'
theorem any_ff : ∀ n : Nat, (List.replicate n false).any id = false := fun n => by
  induction n with
  | zero => rfl
  | succ n ih => rw [List.replicate_succ, List.any_cons, ih]; rfl
theorem ok_are_chances (T : Tx K mg) : Cal P w K mg base 4 "are_chances" ["fractions"] (spAre K) := by
  obtain ⟨fd, F⟩ := T.d_are_chances
  refine ⟨_, fd, T.g_are_chances, F.kp, F.binds (ps := ["fractions"]) fun _ _ _ _ _ _ us hl => match us, hl with | [_], _ => rfl, F.ok sc_are_chances (fun vs H Q E h => ?_) (fun cdv A outer s H vs Q E hr h => ?_)⟩
  · obtain ⟨a, us, xs, n, rfl, _⟩ := h
    rfl
  · obtain ⟨a, us, xs, n, rfl, hL, hF, hs, h0, h1, hb, hn, k⟩ := h
    have nd := sc_are_chances.nd
    refine ⟨_, pss_one (ps_ret (pe_and (pe_not (pe_callB (cr_any rfl) (by rfl) T.f_any (by decide +kernel) (pa_cons
        (pe_lc (own := [("fraction", 1)]) (g := gName 1) (tt := tYes) rfl nd (pi_list (pv 0)) (blkOk_by (N := ["fractions", "fraction"]) (sc := defScope s_are_chances) (by decide +kernel))
          (fun _ _ _ _ _ => pg_name (i := 1) nd rfl (Or.inl rfl)) (fun _ _ _ _ _ => pts_nil)
          (fun _ _ _ _ _ => pe_f (ok_less T) hr rfl (pa_cons (pv 1) (pa_cons (pe_glob rfl T.g_NOTHING_ratios (v := .ref _) rfl) pa_nil)))) pa_nil)))
      (pe_one (pe_cmpR (op_eqD hr.units) (pe_f (ok_sum_of T) hr rfl (pa_cons (pv 0) pa_nil)) (pe_glob rfl T.g_ONE_ratios (v := .ref _) rfl) (nomark _))))), ?_⟩
    refine ⟨_, rfl, a, rfl, ⟨_, hL⟩, fun D hD => lc_list (K := K) (a := a) (xs := us) (fun i H' => Same H H' ∧ H' D = some (.lst ((List.replicate i false).map V.bl)))
      ⟨same_new hD, upd_same⟩ (fun i H' _ h' => h'.1.seq hL) ?_ ?_⟩
    · rintro i y H' hi ⟨s2, hDl⟩
      obtain ⟨x, hx, fx⟩ := Paired.at_ hF hi
      have hil : i < xs.length := (List.getElem?_eq_some_iff.mp hx).1
      have q := mul_le_of (k := n + 1) hil
      rw [Nat.succ_mul] at q
      refine ⟨rfl, ⟨_, rfl, y, _, x, 0, n, 1, rfl, fx.same s2, fr_nothing T H', hs x (List.mem_of_getElem? hx), sz0, by omega, ?_⟩⟩
      have e : decide (x < 0) = false := decide_eq_false (Rat.not_lt.mpr (h0 x (List.mem_of_getElem? hx)))
      rw [e]
      refine ⟨_, hDl, ?_, fun b o eb => ?_, ?_⟩
      · rw [List.length_map, List.length_replicate]
        have : xs.length ≤ xs.length * (n + 1) := Nat.le_mul_of_pos_right _ (by omega)
        exact Nat.lt_of_lt_of_le hil (by rw [sizeLine_eq]; omega)
      · rw [upd_ne (ne_of_none eb hD)]
        exact s2 b o eb
      · rw [upd_same, List.replicate_succ', List.map_append]
        rfl
    · rintro H' ⟨s2, hDl⟩
      refine ⟨D, _, rfl, SqL.of hDl, ?_⟩
      rw [any_ff]
      refine ⟨false, rfl, ?_⟩
      refine ⟨true, rfl, ?_⟩
      refine iteT ?_
      refine ⟨_, rfl, a, us, xs, n, rfl, s2.seq hL, hF.same s2, hs, hb, hn, fun v H2 s3 fv => ?_⟩
      rw [h1] at fv
      obtain ⟨t, rfl, ft⟩ := fv
      refine ⟨.tuple [.int 1, .int 1], .tuple [.int 1, .int 1], .tup ft (.cons (.int 1) (.cons (.int 1) .nil)), .tup (T.t_ONE_ratios H2) (.cons (.int 1) (.cons (.int 1) .nil)), by decide +kernel, by decide +kernel, ?_⟩
      have e : PyData.eqv (.tuple [.int 1, .int 1]) (.tuple [.int 1, .int 1]) = true := by decide +kernel
      rw [e]
      exact k H2 (s2.trans s3)
end
end Sam

set_option maxHeartbeats 4000000
namespace Sam
/-! ### sums -/
def sm {β : Type} (l : List β) (g : β → Rat) : Rat := l.foldr (fun b s => g b + s) 0
section
variable {β γ : Type}
theorem sm_nil (g : β → Rat) : sm [] g = 0 := rfl
theorem sm_cons (b : β) (l : List β) (g : β → Rat) : sm (b :: l) g = g b + sm l g := rfl
theorem sm_append (l m : List β) (g : β → Rat) : sm (l ++ m) g = sm l g + sm m g := by
  induction l with
  | nil => rw [List.nil_append, sm_nil]; grind
  | cons b l ih => rw [List.cons_append, sm_cons, sm_cons, ih]; grind
theorem sm_congr {l : List β} {g h : β → Rat} (e : ∀ b ∈ l, g b = h b) : sm l g = sm l h := by
  induction l with
  | nil => rfl
  | cons b l ih => rw [sm_cons, sm_cons, e b List.mem_cons_self, ih fun c hc => e c (List.mem_cons_of_mem _ hc)]
theorem sm_map (f : γ → β) (l : List γ) (g : β → Rat) : sm (l.map f) g = sm l fun c => g (f c) := by
  induction l with
  | nil => rfl
  | cons b l ih => rw [List.map_cons, sm_cons, sm_cons, ih]
theorem sm_add (l : List β) (g h : β → Rat) : sm l (fun b => g b + h b) = sm l g + sm l h := by
  induction l with
  | nil => rw [sm_nil, sm_nil, sm_nil]; grind
  | cons b l ih => rw [sm_cons, sm_cons, sm_cons, ih]; grind
theorem sm_mul (c : Rat) (l : List β) (g : β → Rat) : sm l (fun b => c * g b) = c * sm l g := by
  induction l with
  | nil => rw [sm_nil, sm_nil]; grind
  | cons b l ih => rw [sm_cons, sm_cons, ih]; grind
theorem sm_zero (l : List β) : sm l (fun _ => 0) = 0 := by
  induction l with
  | nil => rfl
  | cons b l ih => rw [sm_cons, ih]; grind
theorem sm_flatMap (f : γ → List β) (l : List γ) (g : β → Rat) : sm (l.flatMap f) g = sm l fun c => sm (f c) g := by
  induction l with
  | nil => rfl
  | cons b l ih => rw [List.flatMap_cons, sm_append, sm_cons, ih]
theorem sm_comm (l : List β) (m : List γ) (g : β → γ → Rat) : sm l (fun b => sm m (g b)) = sm m fun c => sm l fun b => g b c := by
  induction l with
  | nil => rw [sm_nil]; exact (sm_zero m).symm
  | cons b l ih => rw [sm_cons, ih, ← sm_add]; rfl
theorem sm_perm {l m : List β} (g : β → Rat) (h : l.Perm m) : sm l g = sm m g := by
  induction h with
  | nil => rfl
  | cons b _ ih => rw [sm_cons, sm_cons, ih]
  | swap b c l => rw [sm_cons, sm_cons, sm_cons, sm_cons]; grind
  | trans _ _ ih1 ih2 => rw [ih1, ih2]
theorem qsum_sm (l : List β) (g : β → Rat) : qsum (l.map g) = sm l g := by
  have h : ∀ (l : List β) (c : Rat), (l.map g).foldl (· + ·) c = c + sm l g := fun l => by
    induction l with
    | nil => intro c; rw [sm_nil, List.map_nil, List.foldl_nil]; grind
    | cons b l ih => intro c; rw [List.map_cons, List.foldl_cons, ih, sm_cons]; grind
  rw [qsum, h l 0]
  grind
end
/-! ### picks -/
inductive Tr (α : Type) where
  | ret (a : α)
  | pick (ws : List Int) (k : Nat → Tr α)
def Tr.bind {α β : Type} : Tr α → (α → Tr β) → Tr β
  | .ret a, f => f a
  | .pick ws k, f => .pick ws fun n => (k n).bind f
theorem Tr.bind_assoc {α β γ : Type} (t : Tr α) (f : α → Tr β) (g : β → Tr γ) : (t.bind f).bind g = t.bind fun a => (f a).bind g := by
  induction t with
  | ret a => rfl
  | pick ws k ih => exact congrArg (Tr.pick ws) (funext fun n => ih n)
theorem Tr.bind_ret {α : Type} (t : Tr α) : t.bind .ret = t := by
  induction t with
  | ret a => rfl
  | pick ws k ih => exact congrArg (Tr.pick ws) (funext fun n => ih n)
abbrev Path := List (Nat × List Int)
def firstPos (ws : List Int) : Nat := ws.findIdx fun w => decide (0 < w)
def wAt (ws : List Int) (n : Nat) : Int := ws.getD n 0
def poss (ws : List Int) : List Nat := (List.range ws.length).filter fun m => decide (0 < wAt ws m)
def nextPos (ws : List Int) (n : Nat) : Option Nat := (List.range ws.length).find? fun m => decide (n < m) && decide (0 < wAt ws m)
def adv : Path → Option Path
  | [] => none
  | (n, ws) :: r => match adv r with
    | some r' => some ((n, ws) :: r')
    | none => (nextPos ws n).map fun m => [(m, ws)]
theorem adv_append (p : Path) (n : Nat) (ws : List Int) : adv (p ++ [(n, ws)]) = match nextPos ws n with
    | some m => some (p ++ [(m, ws)])
    | none => adv p := by
  induction p with
  | nil =>
    show (nextPos ws n).map (fun m => [(m, ws)]) = _
    cases e : nextPos ws n <;> rfl
  | cons x p ih =>
    obtain ⟨m, vs⟩ := x
    show (match adv (p ++ [(n, ws)]) with | some r' => some ((m, vs) :: r') | none => (nextPos vs m).map fun z => [(z, vs)]) = _
    rw [ih]
    cases e : nextPos ws n <;> rfl
def frac (ws : List Int) (n : Nat) : Rat := Rat.divInt (wAt ws n) ws.sum
structure ES where
  path : Path
  at_ : Nat
  ch : Rat
def pkPath (ws : List Int) (e : ES) : Path := if e.at_ = e.path.length then e.path ++ [(firstPos ws, ws)] else e.path
def pkN (ws : List Int) (e : ES) : Nat := ((pkPath ws e).getD e.at_ (0, [])).1
def pkE (ws : List Int) (e : ES) : ES := ⟨pkPath ws e, e.at_ + 1, e.ch * frac ws (pkN ws e)⟩
def run {α : Type} : Tr α → ES → α × ES
  | .ret a, e => (a, e)
  | .pick ws k, e => run (k (pkN ws e)) (pkE ws e)
theorem run_bind {α β : Type} (t : Tr α) (f : α → Tr β) : ∀ e, run (t.bind f) e = run (f (run t e).1) (run t e).2 := by
  induction t with
  | ret a => exact fun _ => rfl
  | pick ws k ih => exact fun e => ih _ _
/-- weights that may be picked from -/
structure WsOk (ws : List Int) : Prop where
  nn : ∀ w ∈ ws, 0 ≤ w
  pos : ∃ w ∈ ws, 0 < w
  len : ws.length ≤ 100
  sum : ws.sum ≤ 40000
/-- the run can be walked -/
def Fit {α : Type} : Tr α → ES → Prop
  | .ret _, _ => True
  | .pick ws k, e => WsOk ws ∧ Sz e.ch 4000 ∧ e.path.length ≤ 1000 ∧ (e.at_ = e.path.length ∨ ∃ n, e.path[e.at_]? = some (n, ws) ∧ 0 < wAt ws n) ∧ Fit (k (pkN ws e)) (pkE ws e)
theorem fit_bind {α β : Type} (t : Tr α) (f : α → Tr β) : ∀ e, Fit (t.bind f) e ↔ Fit t e ∧ Fit (f (run t e).1) (run t e).2 := by
  induction t with
  | ret a => exact fun e => ⟨fun h => ⟨trivial, h⟩, fun h => h.2⟩
  | pick ws k ih =>
    intro e
    constructor
    · rintro ⟨a, b, l, c, d⟩
      obtain ⟨d1, d2⟩ := (ih _ _).mp d
      exact ⟨⟨a, b, l, c, d1⟩, d2⟩
    · rintro ⟨⟨a, b, l, c, d1⟩, d2⟩
      exact ⟨a, b, l, c, (ih _ _).mpr ⟨d1, d2⟩⟩
/-! ### leaves -/
def leaves {α : Type} : Tr α → List (Path × α)
  | .ret a => [([], a)]
  | .pick ws k => (poss ws).flatMap fun n => (leaves (k n)).map fun l => ((n, ws) :: l.1, l.2)
def fin {α : Type} : Tr α → Path → Path × α
  | .ret a, _ => ([], a)
  | .pick ws k, [] => ((firstPos ws, ws) :: (fin (k (firstPos ws)) []).1, (fin (k (firstPos ws)) []).2)
  | .pick ws k, (n, _) :: r => ((n, ws) :: (fin (k n) r).1, (fin (k n) r).2)
def Along {α : Type} : Tr α → Path → Prop
  | .ret _, p => p = []
  | .pick _ _, [] => True
  | .pick ws k, (n, vs) :: r => vs = ws ∧ 0 < wAt ws n ∧ Along (k n) r
/-- every way through is well; results, bits -/
def Good {α : Type} (R : α → Prop) : Tr α → Nat → Prop
  | .ret a, _ => R a
  | .pick ws k, b => WsOk ws ∧ ∃ c b', c + b' ≤ b ∧ ws.sum < 2 ^ c ∧ ∀ n, 0 < wAt ws n → Good R (k n) b'
theorem Good.mono {α : Type} {R : α → Prop} {t : Tr α} : ∀ {b b' : Nat}, Good R t b → b ≤ b' → Good R t b' := by
  cases t with
  | ret a => exact fun h _ => h
  | pick ws k => exact fun ⟨a, c, d, e, f⟩ h => ⟨a, c, d, by omega, f⟩
theorem Good.imp {α : Type} {R S : α → Prop} {t : Tr α} (h : ∀ a, R a → S a) : ∀ {b : Nat}, Good R t b → Good S t b := by
  induction t with
  | ret a => exact fun q => h _ q
  | pick ws k ih => exact fun ⟨a, c, d, e, f, g⟩ => ⟨a, c, d, e, f, fun n hn => ih n (g n hn)⟩
theorem Good.bind {α β : Type} {R : α → Prop} {S : β → Prop} {t : Tr α} {f : α → Tr β} {b' : Nat} (hf : ∀ a, R a → Good S (f a) b') : ∀ {b : Nat}, Good R t b → Good S (t.bind f) (b + b') := by
  induction t with
  | ret a => exact fun {b} q => (hf _ q).mono (Nat.le_add_left _ _)
  | pick ws k ih => exact fun {b} ⟨a, c, d, e, g, i⟩ => ⟨a, c, d + b', by omega, g, fun n hn => ih n (i n hn)⟩
theorem getD_app_len {α : Type} (l : List α) (x d : α) : (l ++ [x]).getD l.length d = x := by
  rw [List.getD_eq_getElem?_getD, List.getElem?_append_right (Nat.le_refl _), Nat.sub_self]
  rfl
theorem pk_end {ws : List Int} {e : ES} (h : e.at_ = e.path.length) : pkPath ws e = e.path ++ [(firstPos ws, ws)] ∧ pkN ws e = firstPos ws := by
  have e1 : pkPath ws e = e.path ++ [(firstPos ws, ws)] := if_pos h
  refine ⟨e1, ?_⟩
  unfold pkN
  rw [e1, h, getD_app_len]
theorem pk_mid {ws : List Int} {e : ES} {n : Nat} {vs : List Int} (h : e.path[e.at_]? = some (n, vs)) : pkPath ws e = e.path ∧ pkN ws e = n := by
  have hl := (List.getElem?_eq_some_iff.mp h).1
  have e1 : pkPath ws e = e.path := if_neg (by omega)
  refine ⟨e1, ?_⟩
  unfold pkN
  rw [e1, List.getD_eq_getElem?_getD, h]
  rfl
theorem drop_cons_of {α : Type} {l : List α} {i : Nat} {x : α} {r : List α} (h : l.drop i = x :: r) : l[i]? = some x ∧ l.drop (i + 1) = r ∧ l.take (i + 1) = l.take i ++ [x] := by
  have h1 : l[i]? = some x := by
    have e : (l.drop i)[0]? = some x := by rw [h]; rfl
    rw [List.getElem?_drop] at e
    exact e
  refine ⟨h1, ?_, ?_⟩
  · have e : (l.drop i).drop 1 = r := by rw [h]; rfl
    rw [List.drop_drop] at e
    exact e
  · rw [List.take_add_one, h1]
    rfl
def chs (c : Rat) (p : Path) : Rat := p.foldl (fun c x => c * frac x.2 x.1) c
theorem chs_cons (c : Rat) (n : Nat) (ws : List Int) (p : Path) : chs c ((n, ws) :: p) = chs (c * frac ws n) p := rfl
theorem chs_mul (p : Path) : ∀ c, chs c p = c * chs 1 p := by
  induction p with
  | nil => intro c; show c = c * 1; grind
  | cons x p ih =>
    obtain ⟨n, ws⟩ := x
    intro c
    rw [chs_cons, chs_cons, ih, ih (1 * frac ws n)]
    grind
theorem run_fin {α : Type} (t : Tr α) : ∀ e : ES, e.at_ ≤ e.path.length → Along t (e.path.drop e.at_) →
    run t e = ((fin t (e.path.drop e.at_)).2, ⟨e.path.take e.at_ ++ (fin t (e.path.drop e.at_)).1, e.at_ + (fin t (e.path.drop e.at_)).1.length, chs e.ch (fin t (e.path.drop e.at_)).1⟩) := by
  induction t with
  | ret a =>
    intro e he ha
    have hd : e.path.drop e.at_ = [] := ha
    have hl : e.path.length ≤ e.at_ := List.drop_eq_nil_iff.mp hd
    show (a, e) = (a, ⟨e.path.take e.at_ ++ [], e.at_ + 0, e.ch⟩)
    rw [List.append_nil, List.take_of_length_le hl]
    rfl
  | pick ws k ih =>
    intro e he ha
    cases hd : e.path.drop e.at_ with
    | nil =>
      have hl : e.path.length ≤ e.at_ := List.drop_eq_nil_iff.mp hd
      have ee : e.at_ = e.path.length := by omega
      obtain ⟨e1, e2⟩ := pk_end (ws := ws) ee
      show run (k (pkN ws e)) (pkE ws e) = _
      have h3 : (pkE ws e).path.drop (pkE ws e).at_ = [] := by
        show (pkPath ws e).drop (e.at_ + 1) = []
        rw [e1]
        refine List.drop_eq_nil_iff.mpr ?_
        rw [List.length_append]
        simp
        omega
      have z := ih (pkN ws e) (pkE ws e) (by show e.at_ + 1 ≤ (pkPath ws e).length; rw [e1, List.length_append]; simp; omega) (by rw [h3]; cases k (pkN ws e) <;> trivial)
      rw [z, h3, e2]
      show ((fin (k (firstPos ws)) []).2, (⟨(pkPath ws e).take (e.at_ + 1) ++ _, e.at_ + 1 + _, chs (e.ch * frac ws (pkN ws e)) _⟩ : ES)) = ((fin (k (firstPos ws)) []).2, (⟨e.path.take e.at_ ++ ((firstPos ws, ws) :: (fin (k (firstPos ws)) []).1), e.at_ + ((fin (k (firstPos ws)) []).1.length + 1), chs (e.ch * frac ws (firstPos ws)) (fin (k (firstPos ws)) []).1⟩ : ES))
      rw [e1, e2, List.take_of_length_le (l := e.path ++ _) (by rw [List.length_append]; simp; omega), List.take_of_length_le (l := e.path) hl, List.append_assoc, Nat.add_assoc, Nat.add_comm 1]
      rfl
    | cons x r =>
      obtain ⟨n, vs⟩ := x
      obtain ⟨h1, h2, h3⟩ := drop_cons_of hd
      rw [hd] at ha
      obtain ⟨rfl, hw, ha⟩ := ha
      obtain ⟨e1, e2⟩ := pk_mid (ws := vs) h1
      have hl := (List.getElem?_eq_some_iff.mp h1).1
      have h4 : (pkE vs e).path.drop (pkE vs e).at_ = r := by
        show (pkPath vs e).drop (e.at_ + 1) = r
        rw [e1, h2]
      show run (k (pkN vs e)) (pkE vs e) = _
      have z := ih (pkN vs e) (pkE vs e) (by show e.at_ + 1 ≤ (pkPath vs e).length; rw [e1]; omega) (by rw [h4, e2]; exact ha)
      rw [z, h4, e2]
      show ((fin (k n) r).2, (⟨(pkPath vs e).take (e.at_ + 1) ++ _, e.at_ + 1 + _, chs (e.ch * frac vs (pkN vs e)) _⟩ : ES)) = ((fin (k n) r).2, (⟨e.path.take e.at_ ++ ((n, vs) :: (fin (k n) r).1), e.at_ + ((fin (k n) r).1.length + 1), chs (e.ch * frac vs n) (fin (k n) r).1⟩ : ES))
      rw [e1, e2, h3, List.append_assoc, Nat.add_assoc, Nat.add_comm 1]
      rfl

theorem wAt_pos_lt {ws : List Int} {n : Nat} (h : 0 < wAt ws n) : n < ws.length := by
  rcases Nat.lt_or_ge n ws.length with z | z
  · exact z
  · unfold wAt at h
    rw [List.getD_eq_getElem?_getD, List.getElem?_eq_none_iff.mpr z] at h
    exact absurd h (by decide)
theorem wAt_mem {ws : List Int} {n : Nat} (h : n < ws.length) : wAt ws n ∈ ws := by
  unfold wAt
  rw [List.getD_eq_getElem?_getD, List.getElem?_eq_getElem h]
  exact List.getElem_mem h
theorem sum_nn {ws : List Int} (h : ∀ w ∈ ws, 0 ≤ w) : 0 ≤ ws.sum := by
  induction ws with
  | nil => exact Int.le_refl _
  | cons w l ih =>
    have h1 := h w List.mem_cons_self
    have h2 := ih fun x hx => h x (List.mem_cons_of_mem _ hx)
    rw [List.sum_cons]
    omega
theorem mem_le_sum {ws : List Int} (h : ∀ w ∈ ws, 0 ≤ w) {x : Int} (hx : x ∈ ws) : x ≤ ws.sum := by
  induction ws with
  | nil => cases hx
  | cons w l ih =>
    have h1 := h w List.mem_cons_self
    have h2 := sum_nn fun x hx => h x (List.mem_cons_of_mem w hx)
    rw [List.sum_cons]
    rcases List.mem_cons.mp hx with e | e
    · omega
    · have := ih (fun x hx => h x (List.mem_cons_of_mem _ hx)) e
      omega
theorem WsOk.sum_pos {ws : List Int} (h : WsOk ws) : 0 < ws.sum := by
  obtain ⟨w, hw, h0⟩ := h.pos
  have := mem_le_sum h.nn hw
  omega
theorem WsOk.at_le {ws : List Int} (h : WsOk ws) (n : Nat) : wAt ws n ≤ ws.sum := by
  rcases Nat.lt_or_ge n ws.length with z | z
  · exact mem_le_sum h.nn (wAt_mem z)
  · unfold wAt
    rw [List.getD_eq_getElem?_getD, List.getElem?_eq_none_iff.mpr z]
    exact Int.le_of_lt h.sum_pos
theorem WsOk.at_nn {ws : List Int} (h : WsOk ws) (n : Nat) : 0 ≤ wAt ws n := by
  rcases Nat.lt_or_ge n ws.length with z | z
  · exact h.nn _ (wAt_mem z)
  · unfold wAt
    rw [List.getD_eq_getElem?_getD, List.getElem?_eq_none_iff.mpr z]
    exact Int.le_refl _
theorem first_pos {ws : List Int} (h : WsOk ws) : 0 < wAt ws (firstPos ws) ∧ firstPos ws < ws.length ∧ ∀ m, m < firstPos ws → ¬ 0 < wAt ws m := by
  have hl : firstPos ws < ws.length := by
    refine List.findIdx_lt_length_of_exists ?_
    obtain ⟨w, hw, h0⟩ := h.pos
    exact ⟨w, hw, decide_eq_true h0⟩
  refine ⟨?_, hl, fun m hm => ?_⟩
  · have z := List.findIdx_getElem (w := hl)
    unfold wAt
    rw [List.getD_eq_getElem?_getD, List.getElem?_eq_getElem hl]
    exact of_decide_eq_true z
  · have z := List.not_of_lt_findIdx hm
    unfold wAt
    rw [List.getD_eq_getElem?_getD, List.getElem?_eq_getElem (Nat.lt_trans hm hl)]
    simpa using z
theorem sz_frac {ws : List Int} (h : WsOk ws) {c : Nat} (hc : ws.sum < 2 ^ c) (n : Nat) : Sz (frac ws n) c := by
  have h0 := h.sum_pos
  have h1 := h.at_le n
  have h2 := h.at_nn n
  have h3 : ws.sum.natAbs < 2 ^ c := by
    have e : ((2 ^ c : Nat) : Int) = 2 ^ c := by rw [Int.natCast_pow]; rfl
    omega
  unfold frac
  exact ⟨Nat.lt_of_le_of_lt (divInt_le_num _ _) (by omega), Nat.lt_of_le_of_lt (divInt_le_den (by omega)) h3⟩
theorem frac_nn {ws : List Int} (h : WsOk ws) (n : Nat) : 0 ≤ frac ws n := by
  unfold frac
  exact Rat.divInt_nonneg (h.at_nn n) (Int.le_of_lt h.sum_pos)
theorem frac_div (ws : List Int) (n : Nat) : frac ws n = (wAt ws n : Rat) / (ws.sum : Rat) := Rat.divInt_eq_div _ _
theorem frac_pos {ws : List Int} (h : WsOk ws) {n : Nat} (hn : 0 < wAt ws n) : 0 < frac ws n := by
  have h1 : frac ws n ≠ 0 := fun e => by
    rw [frac_div] at e
    have h0 : (ws.sum : Rat) ≠ 0 := fun z => by
      have := h.sum_pos
      have q : ws.sum = 0 := by exact_mod_cast z
      omega
    have q : (wAt ws n : Rat) = 0 := by grind
    have q2 : wAt ws n = 0 := by exact_mod_cast q
    omega
  exact Rat.lt_of_le_of_ne (frac_nn h n) (Ne.symm h1)
theorem frac_zero {ws : List Int} {n : Nat} (h : wAt ws n = 0) : frac ws n = 0 := by
  unfold frac
  rw [h]
  exact Rat.zero_divInt _
theorem fit_of {α : Type} {R : α → Prop} (t : Tr α) : ∀ (b m : Nat) (e : ES), Good R t b → Sz e.ch m → m + b ≤ 4000 → e.path.length + b ≤ 1000 → e.at_ ≤ e.path.length → Along t (e.path.drop e.at_) → Fit t e := by
  induction t with
  | ret a => exact fun _ _ _ _ _ _ _ _ _ => trivial
  | pick ws k ih =>
    rintro b m e ⟨hw, c, b', hb, hc, hg⟩ hs hm hpl hl ha
    have hc1 : 1 ≤ c := by
      rcases Nat.eq_zero_or_pos c with z | z
      · subst z
        have := hw.sum_pos
        have e0 : (2 : Int) ^ 0 = 1 := rfl
        omega
      · exact z
    have step : ∀ n, pkN ws e = n → pkPath ws e = pkPath ws e → 0 < wAt ws n → (e.at_ = e.path.length ∨ ∃ n, e.path[e.at_]? = some (n, ws) ∧ 0 < wAt ws n) → e.at_ + 1 ≤ (pkPath ws e).length → (pkPath ws e).length ≤ e.path.length + 1 → Along (k n) ((pkPath ws e).drop (e.at_ + 1)) → Fit (.pick ws k) e := by
      intro n hn _ hp hv hl' hl3 ha'
      refine ⟨hw, hs.mono (by omega), by omega, hv, ?_⟩
      rw [hn]
      refine ih n b' (m + c) (pkE ws e) (hg n hp) ?_ (by omega) (by show (pkPath ws e).length + b' ≤ 1000; omega) hl' ha'
      show Sz (e.ch * frac ws (pkN ws e)) (m + c)
      exact hs.mul (sz_frac hw hc _)
    cases hd : e.path.drop e.at_ with
    | nil =>
      have hl2 : e.path.length ≤ e.at_ := List.drop_eq_nil_iff.mp hd
      obtain ⟨e1, e2⟩ := pk_end (ws := ws) (show e.at_ = e.path.length by omega)
      have h3 : (pkPath ws e).drop (e.at_ + 1) = [] := by
        rw [e1]
        refine List.drop_eq_nil_iff.mpr ?_
        rw [List.length_append]
        simp
        omega
      exact step _ e2 rfl (first_pos hw).1 (.inl (by omega)) (by rw [e1, List.length_append]; simp; omega) (by rw [e1, List.length_append]; simp) (by rw [h3]; cases k (firstPos ws) <;> trivial)
    | cons x r =>
      obtain ⟨n, vs⟩ := x
      obtain ⟨h1, h2, h3⟩ := drop_cons_of hd
      rw [hd] at ha
      obtain ⟨rfl, hw', ha⟩ := ha
      obtain ⟨e1, e2⟩ := pk_mid (ws := vs) h1
      have hl2 := (List.getElem?_eq_some_iff.mp h1).1
      exact step _ e2 rfl hw' (.inr ⟨n, h1, hw'⟩) (by rw [e1]; omega) (by rw [e1]; omega) (by rw [e1, h2]; exact ha)
/-! ### the means -/
def ev {α : Type} : Tr α → (α → Rat) → Rat
  | .ret a, f => f a
  | .pick ws k, f => sm (List.range ws.length) fun n => frac ws n * ev (k n) f
theorem ev_bind {α β : Type} (t : Tr α) (g : α → Tr β) (f : β → Rat) : ev (t.bind g) f = ev t fun a => ev (g a) f := by
  induction t with
  | ret a => rfl
  | pick ws k ih =>
    show sm _ (fun n => frac ws n * ev ((k n).bind g) f) = sm _ _
    exact sm_congr fun n _ => by rw [ih]
theorem sm_filter {β : Type} (p : β → Bool) (l : List β) (g : β → Rat) (h : ∀ b ∈ l, p b = false → g b = 0) : sm (l.filter p) g = sm l g := by
  induction l with
  | nil => rfl
  | cons b l ih =>
    have ih' := ih fun c hc => h c (List.mem_cons_of_mem _ hc)
    cases e : p b with
    | true => rw [List.filter_cons_of_pos e, sm_cons, sm_cons, ih']
    | false =>
      rw [List.filter_cons_of_neg (by rw [e]; decide), ih', sm_cons, h b List.mem_cons_self e]
      grind
theorem ev_leaves {α : Type} {R : α → Prop} (t : Tr α) : ∀ {b : Nat}, Good R t b → ∀ f, ev t f = sm (leaves t) fun l => chs 1 l.1 * f l.2 := by
  induction t with
  | ret a =>
    intro b _ f
    show f a = 1 * f a + 0
    grind
  | pick ws k ih =>
    rintro b ⟨hw, c, b', hb, hc, hg⟩ f
    show sm _ _ = sm ((poss ws).flatMap _) _
    rw [sm_flatMap, poss, sm_filter]
    · refine sm_congr fun n hn => ?_
      rw [sm_map]
      rcases Int.lt_trichotomy (wAt ws n) 0 with z | z | z
      · have := hw.at_nn n
        omega
      · rw [frac_zero z]
        have e : (sm (leaves (k n)) fun l => chs 1 ((n, ws) :: l.1) * f l.2) = sm (leaves (k n)) fun _ => 0 := sm_congr fun l _ => by
          rw [chs_cons, chs_mul, frac_zero z]
          grind
        rw [e, sm_zero]
        grind
      · rw [ih n (hg n z) f, ← sm_mul]
        refine sm_congr fun l _ => ?_
        rw [chs_cons, chs_mul l.1 (1 * frac ws n)]
        grind
    · intro n hn hp
      have h0 : wAt ws n = 0 := by
        have := hw.at_nn n
        have h1 := of_decide_eq_false hp
        omega
      rw [sm_map]
      have e : (sm (leaves (k n)) fun l => chs 1 ((n, ws) :: l.1) * f l.2) = sm (leaves (k n)) fun _ => 0 := sm_congr fun l _ => by
        rw [chs_cons, chs_mul, frac_zero h0]
        grind
      rw [e, sm_zero]
theorem sm_div (ws : List Int) (s : Rat) : sm (List.range ws.length) (fun n => (wAt ws n : Rat) / s) = (ws.sum : Rat) / s := by
  have h : ∀ ws : List Int, sm (List.range ws.length) (fun n => (wAt ws n : Rat)) = (ws.sum : Rat) := fun ws => by
    induction ws with
    | nil => rfl
    | cons w l ih =>
      rw [List.length_cons, List.range_succ_eq_map, sm_cons, sm_map]
      have e : (sm (List.range l.length) fun c => (wAt (w :: l) (c + 1) : Rat)) = sm (List.range l.length) fun c => (wAt l c : Rat) := sm_congr fun c _ => rfl
      rw [e, ih, List.sum_cons, Rat.intCast_add]
      rfl
  rw [← h ws]
  have e : (fun n => (wAt ws n : Rat) / s) = fun n => s⁻¹ * (wAt ws n : Rat) := funext fun n => by rw [Rat.div_def]; grind
  rw [e, sm_mul, Rat.div_def]
  grind
theorem sm_frac {ws : List Int} (h : WsOk ws) : sm (List.range ws.length) (frac ws) = 1 := by
  have e : frac ws = fun n => (wAt ws n : Rat) / (ws.sum : Rat) := funext fun n => frac_div ws n
  rw [e, sm_div]
  have h0 : (ws.sum : Rat) ≠ 0 := fun z => by
    have := h.sum_pos
    have q : ws.sum = 0 := by exact_mod_cast z
    omega
  grind
theorem ev_one {α : Type} {R : α → Prop} (t : Tr α) : ∀ {b : Nat}, Good R t b → ev t (fun _ => 1) = 1 := by
  induction t with
  | ret a => exact fun _ => rfl
  | pick ws k ih =>
    rintro b ⟨hw, c, b', hb, hc, hg⟩
    show sm _ (fun n => frac ws n * ev (k n) fun _ => 1) = 1
    have e : (sm (List.range ws.length) fun n => frac ws n * ev (k n) fun _ => 1) = sm (List.range ws.length) (frac ws) := sm_congr fun n _ => by
      rcases Int.lt_trichotomy (wAt ws n) 0 with z | z | z
      · have := hw.at_nn n
        omega
      · rw [frac_zero z]
        grind
      · rw [ih n (hg n z)]
        grind
    rw [e, sm_frac hw]
theorem ev_congr {α : Type} {R : α → Prop} {f g : α → Rat} (h : ∀ a, R a → f a = g a) (t : Tr α) : ∀ {b : Nat}, Good R t b → ev t f = ev t g := by
  induction t with
  | ret a => exact fun q => h a q
  | pick ws k ih =>
    rintro b ⟨hw, c, b', hb, hc, hg⟩
    refine sm_congr fun n _ => ?_
    rcases Int.lt_trichotomy (wAt ws n) 0 with z | z | z
    · have := hw.at_nn n
      omega
    · rw [frac_zero z]
      grind
    · rw [ih n (hg n z)]
end Sam

set_option maxHeartbeats 4000000
namespace Sam
theorem poss_lt (ws : List Int) : (poss ws).Pairwise (· < ·) := List.Pairwise.filter _ List.pairwise_lt_range
theorem poss_pos {ws : List Int} {n : Nat} (h : n ∈ poss ws) : 0 < wAt ws n := of_decide_eq_true (List.mem_filter.mp h).2
theorem next_of {ws : List Int} {pre rest : List Nat} {n : Nat} (h : poss ws = pre ++ n :: rest) : nextPos ws n = rest.head? := by
  have h1 : nextPos ws n = ((poss ws).filter fun m => decide (n < m)).head? := by
    unfold nextPos poss
    rw [List.filter_filter, ← List.head?_filter]
  have hp := poss_lt ws
  rw [h] at hp
  obtain ⟨p1, p2, p3⟩ := List.pairwise_append.mp hp
  obtain ⟨p4, p5⟩ := List.pairwise_cons.mp p2
  rw [h1, h, List.filter_append, List.filter_cons_of_neg (by simp)]
  have e1 : pre.filter (fun m => decide (n < m)) = [] := List.filter_eq_nil_iff.mpr fun m hm => by
    have := p3 m hm n List.mem_cons_self
    simp
    omega
  have e2 : rest.filter (fun m => decide (n < m)) = rest := List.filter_eq_self.mpr fun m hm => decide_eq_true (p4 m hm)
  rw [e1, e2, List.nil_append]
theorem along_nil {α : Type} (t : Tr α) : Along t [] := by cases t <;> first | rfl | trivial
section
variable {α : Type}
def Succ (t : Tr α) (l l' : Path × α) : Prop := ∃ p', adv l.1 = some p' ∧ Along t p' ∧ fin t p' = l'
def Lk (t : Tr α) : List (Path × α) → Prop
  | [] => True
  | [l] => adv l.1 = none
  | l :: l' :: r => Succ t l l' ∧ Lk t (l' :: r)
abbrev pre1 (n : Nat) (ws : List Int) : Path × α → Path × α := fun l => ((n, ws) :: l.1, l.2)
theorem succ_in {ws : List Int} {k : Nat → Tr α} {n : Nat} (hn : 0 < wAt ws n) {l l' : Path × α} (h : Succ (k n) l l') : Succ (.pick ws k) (pre1 n ws l) (pre1 n ws l') := by
  obtain ⟨p, h1, h2, h3⟩ := h
  refine ⟨(n, ws) :: p, ?_, ⟨rfl, hn, h2⟩, ?_⟩
  · show (match adv l.1 with | some r' => some ((n, ws) :: r') | none => _) = _
    rw [h1]
  · rw [← h3]
    rfl
theorem lk_block {ws : List Int} {k : Nat → Tr α} {n : Nat} (hn : 0 < wAt ws n) {T : List (Path × α)} (hT : Lk (.pick ws k) T) (h0 : T = [] → nextPos ws n = none)
    (h1 : ∀ l' r, T = l' :: r → ∃ m, nextPos ws n = some m ∧ 0 < wAt ws m ∧ fin (.pick ws k) [(m, ws)] = l') : ∀ M : List (Path × α), Lk (k n) M → Lk (.pick ws k) (M.map (pre1 n ws) ++ T)
  | [], _ => hT
  | [l], h => by
    have h : adv l.1 = none := h
    have e : adv ((n, ws) :: l.1) = (nextPos ws n).map fun m => [(m, ws)] := by
      show (match adv l.1 with | some r' => some ((n, ws) :: r') | none => _) = _
      rw [h]
    show Lk _ (pre1 n ws l :: T)
    cases T with
    | nil =>
      show adv ((n, ws) :: l.1) = none
      rw [e, h0 rfl]
      rfl
    | cons l' r =>
      obtain ⟨m, e1, e2, e3⟩ := h1 l' r rfl
      refine ⟨⟨[(m, ws)], ?_, ⟨rfl, e2, along_nil _⟩, e3⟩, hT⟩
      show adv ((n, ws) :: l.1) = _
      rw [e, e1]
      rfl
  | l :: l' :: M, h => by
    obtain ⟨a, b⟩ : Succ (k n) l l' ∧ Lk (k n) (l' :: M) := h
    exact ⟨succ_in hn a, lk_block hn hT h0 h1 (l' :: M) b⟩
theorem poss_first {ws : List Int} (h : WsOk ws) : ∃ r, poss ws = firstPos ws :: r := by
  obtain ⟨a, b, c⟩ := first_pos h
  have hm : firstPos ws ∈ poss ws := List.mem_filter.mpr ⟨List.mem_range.mpr b, decide_eq_true a⟩
  have hp := poss_lt ws
  cases e : poss ws with
  | nil =>
    rw [e] at hm
    cases hm
  | cons n r =>
    refine ⟨r, ?_⟩
    rw [e] at hm hp
    have hn : 0 < wAt ws n := poss_pos (by rw [e]; exact List.mem_cons_self)
    rcases List.mem_cons.mp hm with z | z
    · rw [z]
    · have q := (List.pairwise_cons.mp hp).1 _ z
      exact absurd hn (c n q)
theorem leaves_lk {R : α → Prop} (t : Tr α) : ∀ {b : Nat}, Good R t b → (∃ r, leaves t = fin t [] :: r) ∧ Lk t (leaves t) := by
  induction t with
  | ret a => exact fun _ => ⟨⟨[], rfl⟩, rfl⟩
  | pick ws k ih =>
    rintro b ⟨hw, c, b', hb, hc, hg⟩
    have key : ∀ suf pre : List Nat, poss ws = pre ++ suf → Lk (.pick ws k) (suf.flatMap fun n => (leaves (k n)).map (pre1 n ws)) ∧ ∀ n r, suf = n :: r → ∃ r', (suf.flatMap fun n => (leaves (k n)).map (pre1 n ws)) = fin (.pick ws k) [(n, ws)] :: r' := by
      intro suf
      induction suf with
      | nil => exact fun _ _ => ⟨trivial, fun _ _ h => nomatch h⟩
      | cons n suf ih2 =>
        intro pre h
        have hn : 0 < wAt ws n := poss_pos (by rw [h]; simp)
        obtain ⟨⟨r1, e1⟩, l1⟩ := ih n (hg n hn)
        obtain ⟨a1, a2⟩ := ih2 (pre ++ [n]) (by rw [h, List.append_assoc]; rfl)
        have hx := next_of h
        rw [List.flatMap_cons]
        refine ⟨lk_block hn a1 (fun z => ?_) (fun l' r z => ?_) _ l1, fun n' r z => ?_⟩
        · cases suf with
          | nil => rw [hx]; rfl
          | cons m r =>
            obtain ⟨r', e⟩ := a2 m r rfl
            rw [e] at z
            cases z
        · cases suf with
          | nil => cases z
          | cons m r2 =>
            obtain ⟨r', e⟩ := a2 m r2 rfl
            rw [e] at z
            have hm : 0 < wAt ws m := poss_pos (by rw [h]; simp)
            exact ⟨m, by rw [hx]; rfl, hm, (List.cons.inj z).1⟩
        · have en : n = n' := (List.cons.inj z).1
          subst en
          rw [e1]
          exact ⟨_, rfl⟩
    obtain ⟨k1, k2⟩ := key (poss ws) [] rfl
    obtain ⟨r, e⟩ := poss_first hw
    obtain ⟨r', e'⟩ := k2 _ r e
    exact ⟨⟨r', e'⟩, k1⟩
/-- the next leaf -/
theorem lk_next (t : Tr α) : ∀ (L : List (Path × α)), Lk t L → ∀ (i : Nat) l, L[i]? = some l → (adv l.1 = none ∧ L.length = i + 1) ∨ ∃ p', adv l.1 = some p' ∧ Along t p' ∧ L[i + 1]? = some (fin t p')
  | [], _, i, l, h => by simp at h
  | [x], hx, 0, l, h => by
    have e : x = l := by simpa using h
    subst e
    exact .inl ⟨hx, rfl⟩
  | [x], _, i + 1, l, h => by simp at h
  | x :: y :: r, hx, 0, l, h => by
    have e : x = l := by simpa using h
    subst e
    obtain ⟨p', a, b, c⟩ := hx.1
    exact .inr ⟨p', a, b, by rw [c]; rfl⟩
  | x :: y :: r, hx, i + 1, l, h => by
    rcases lk_next t (y :: r) hx.2 i l (by simpa using h) with ⟨a, b⟩ | ⟨p', a, b, c⟩
    · refine .inl ⟨a, ?_⟩
      rw [List.length_cons, b]
    · exact .inr ⟨p', a, b, by simpa using c⟩
theorem leaf_ok {R : α → Prop} (t : Tr α) : ∀ {b : Nat}, Good R t b → ∀ l ∈ leaves t, R l.2 ∧ 0 < chs 1 l.1 ∧ Sz (chs 1 l.1) (b + 1) := by
  induction t with
  | ret a =>
    intro b h l hl
    have e : l = ([], a) := by simpa [leaves] using hl
    subst e
    exact ⟨h, (show (0 : Rat) < 1 by decide), (show Sz 1 1 from ⟨by decide, by decide⟩).mono (by omega)⟩
  | pick ws k ih =>
    rintro b ⟨hw, c, b', hb, hc, hg⟩ l hl
    obtain ⟨n, hn, h2⟩ := List.mem_flatMap.mp hl
    obtain ⟨l', h3, rfl⟩ := List.mem_map.mp h2
    have hp := poss_pos hn
    obtain ⟨a1, a2, a3⟩ := ih n (hg n hp) l' h3
    have e : chs 1 ((n, ws) :: l'.1) = frac ws n * chs 1 l'.1 := by
      rw [chs_cons, chs_mul]
      grind
    refine ⟨a1, ?_, ?_⟩
    · show 0 < chs 1 ((n, ws) :: l'.1)
      rw [e]
      exact Rat.mul_pos (frac_pos hw hp) a2
    · show Sz (chs 1 ((n, ws) :: l'.1)) (b + 1)
      rw [e]
      exact ((sz_frac hw hc n).mul a3).mono (by omega)
theorem leaf_len {R : α → Prop} (t : Tr α) : ∀ {b : Nat}, Good R t b → ∀ l ∈ leaves t, l.1.length ≤ b := by
  induction t with
  | ret a =>
    intro b _ l hl
    have e : l = ([], a) := by simpa [leaves] using hl
    subst e
    exact Nat.zero_le _
  | pick ws k ih =>
    rintro b ⟨hw, c, b', hb, hc, hg⟩ l hl
    obtain ⟨n, hn, h2⟩ := List.mem_flatMap.mp hl
    obtain ⟨l', h3, rfl⟩ := List.mem_map.mp h2
    have z := ih n (hg n (poss_pos hn)) l' h3
    have hc1 : 1 ≤ c := by
      rcases Nat.eq_zero_or_pos c with z | z
      · subst z
        have := hw.sum_pos
        have e0 : (2 : Int) ^ 0 = 1 := rfl
        omega
      · exact z
    show l'.1.length + 1 ≤ b
    omega
theorem adv_len : ∀ (p p' : Path), adv p = some p' → p'.length ≤ p.length
  | [], _, h => by cases h
  | (n, ws) :: r, p', h => by
    have h1 : (match adv r with | some r' => some ((n, ws) :: r') | none => (nextPos ws n).map fun m => [(m, ws)]) = some p' := h
    cases e : adv r with
    | some r' =>
      rw [e] at h1
      have q := adv_len r r' e
      rw [← Option.some.inj h1, List.length_cons, List.length_cons]
      omega
    | none =>
      rw [e] at h1
      have h2 : (nextPos ws n).map (fun m => [(m, ws)]) = some p' := h1
      cases e2 : nextPos ws n with
      | none => rw [e2] at h2; cases h2
      | some m =>
        rw [e2] at h2
        rw [← Option.some.inj h2, List.length_cons]
        simp
/-- how many leaves at most -/
def Few (t : Tr α) (c : Nat) : Prop := (leaves t).length ≤ c
theorem len_flat_le {β γ : Type} (l : List β) (f : β → List γ) (d : Nat) (h : ∀ b ∈ l, (f b).length ≤ d) : (l.flatMap f).length ≤ l.length * d := by
  induction l with
  | nil => simp
  | cons b l ih =>
    rw [List.flatMap_cons, List.length_append, List.length_cons, Nat.succ_mul]
    have h1 := h b List.mem_cons_self
    have h2 := ih fun c hc => h c (List.mem_cons_of_mem _ hc)
    omega
end
theorem leaves_bind {α β : Type} (t : Tr α) (f : α → Tr β) : (leaves (t.bind f)).length = ((leaves t).flatMap fun l => leaves (f l.2)).length := by
  induction t with
  | ret a => simp [leaves, Tr.bind]
  | pick ws k ih =>
    show ((poss ws).flatMap fun n => (leaves ((k n).bind f)).map (pre1 n ws)).length = (((poss ws).flatMap fun n => (leaves (k n)).map (pre1 n ws)).flatMap fun l => leaves (f l.2)).length
    generalize poss ws = ps
    induction ps with
    | nil => rfl
    | cons n ps ih2 =>
      rw [List.flatMap_cons, List.flatMap_cons, List.flatMap_append, List.length_append, List.length_append, ih2, List.length_map, ih n]
      congr 1
      rw [List.flatMap_map]
theorem Few.bind {α β : Type} {R : α → Prop} {t : Tr α} {f : α → Tr β} {b c d : Nat} (g : Good R t b) (h : Few t c) (hf : ∀ a, R a → Few (f a) d) : Few (t.bind f) (c * d) := by
  unfold Few
  rw [leaves_bind]
  refine Nat.le_trans (len_flat_le _ _ d fun l hl => hf l.2 (leaf_ok t g l hl).1) (Nat.mul_le_mul_right d h)
end Sam

set_option maxHeartbeats 4000000
namespace Sam
/-! ### finite means -/
section
variable {α β : Type}
def IsEv (φ : (α → Rat) → Rat) : Prop := ∃ l : List (Rat × α), ∀ f, φ f = sm l fun p => p.1 * f p.2
theorem isEv_ret (a : α) : IsEv fun f : α → Rat => f a := ⟨[(1, a)], fun f => by rw [sm_cons, sm_nil]; grind⟩
theorem isEv_sum {ι : Type} (c : ι → Rat) (φ : ι → (α → Rat) → Rat) : ∀ l : List ι, (∀ i ∈ l, IsEv (φ i)) → IsEv fun f => sm l fun i => c i * φ i f
  | [], _ => ⟨[], fun _ => rfl⟩
  | i :: l, h => by
    obtain ⟨l1, e1⟩ := h i List.mem_cons_self
    obtain ⟨l2, e2⟩ := isEv_sum c φ l fun j hj => h j (List.mem_cons_of_mem _ hj)
    refine ⟨l1.map (fun p => (c i * p.1, p.2)) ++ l2, fun f => ?_⟩
    have e2' := e2 f
    dsimp only at e2' ⊢
    rw [sm_append, sm_map, sm_cons, ← e2', e1, ← sm_mul]
    congr 1
    exact sm_congr fun p _ => by grind
theorem IsEv.map {φ : (α → Rat) → Rat} (h : IsEv φ) (g : α → β) : IsEv fun f : β → Rat => φ fun a => f (g a) := by
  obtain ⟨l, e⟩ := h
  refine ⟨l.map fun p => (p.1, g p.2), fun f => ?_⟩
  dsimp only
  rw [e, sm_map]
theorem IsEv.bind {φ : (α → Rat) → Rat} {ψ : α → (β → Rat) → Rat} (h : IsEv φ) (h' : ∀ a, IsEv (ψ a)) : IsEv fun f => φ fun a => ψ a f := by
  obtain ⟨l, e⟩ := h
  obtain ⟨m, e'⟩ := isEv_sum (fun p : Rat × α => p.1) (fun p => ψ p.2) l fun p _ => h' p.2
  refine ⟨m, fun f => ?_⟩
  have q := e' f
  dsimp only at q ⊢
  rw [e, ← q]
theorem IsEv.add {φ : (α → Rat) → Rat} (h : IsEv φ) (f g : α → Rat) : φ (fun a => f a + g a) = φ f + φ g := by
  obtain ⟨l, e⟩ := h
  rw [e, e, e, ← sm_add]
  exact sm_congr fun p _ => by grind
theorem IsEv.mul {φ : (α → Rat) → Rat} (h : IsEv φ) (c : Rat) (f : α → Rat) : φ (fun a => c * f a) = c * φ f := by
  obtain ⟨l, e⟩ := h
  rw [e, e, ← sm_mul]
  exact sm_congr fun p _ => by grind
theorem IsEv.sum {ι : Type} {φ : (α → Rat) → Rat} (h : IsEv φ) (l : List ι) (f : ι → α → Rat) : φ (fun a => sm l fun i => f i a) = sm l fun i => φ (f i) := by
  obtain ⟨m, e⟩ := h
  rw [e]
  have e2 : (sm m fun p => p.1 * sm l fun i => f i p.2) = sm m fun p => sm l fun i => p.1 * f i p.2 := sm_congr fun p _ => by rw [sm_mul]
  rw [e2, sm_comm]
  exact sm_congr fun i _ => (e (f i)).symm
theorem IsEv.comm {φ : (α → Rat) → Rat} {ψ : (β → Rat) → Rat} (h : IsEv φ) (h' : IsEv ψ) (f : α → β → Rat) : φ (fun a => ψ (f a)) = ψ fun b => φ fun a => f a b := by
  obtain ⟨l, e⟩ := id h'
  have e1 : (fun a => ψ (f a)) = fun a => sm l fun p => p.1 * f a p.2 := funext fun a => e (f a)
  rw [e1, h.sum l, e]
  exact sm_congr fun p _ => h.mul p.1 fun a => f a p.2
theorem isEv_ev (t : Tr α) : IsEv (ev t) := by
  induction t with
  | ret a => exact isEv_ret a
  | pick ws k ih => exact isEv_sum _ (fun n => ev (k n)) _ fun n _ => ih n
end
/-! ### drawing one after the other -/
section
variable {ι : Type}
def sel : List ι → List (ι × List ι)
  | [] => []
  | x :: xs => (x, xs) :: (sel xs).map fun p => (p.1, x :: p.2)
theorem sel_append (A B : List ι) : sel (A ++ B) = (sel A).map (fun p => (p.1, p.2 ++ B)) ++ (sel B).map fun p => (p.1, A ++ p.2) := by
  induction A with
  | nil =>
    show sel B = [] ++ (sel B).map fun p => (p.1, p.2)
    rw [List.nil_append]
    exact (List.map_id (sel B)).symm
  | cons x A ih =>
    show (x, A ++ B) :: (sel (A ++ B)).map _ = _
    rw [ih, List.map_append, List.map_map, List.map_map]
    show _ = (x, A ++ B) :: (((sel A).map fun p => (p.1, x :: p.2)).map fun p => (p.1, p.2 ++ B)) ++ _
    rw [List.map_map]
    rfl
theorem sel_perm_mem {A : List ι} {p : ι × List ι} (h : p ∈ sel A) : (p.1 :: p.2).Perm A := by
  induction A generalizing p with
  | nil => cases h
  | cons x A ih =>
    rcases List.mem_cons.mp h with e | e
    · subst e
      exact List.Perm.refl _
    · obtain ⟨q, hq, rfl⟩ := List.mem_map.mp e
      exact (List.Perm.swap x q.1 q.2).trans ((ih hq).cons x)
theorem sel_sub {A : List ι} {p : ι × List ι} (h : p ∈ sel A) : p.2.Sublist A := by
  induction A generalizing p with
  | nil => cases h
  | cons x A ih =>
    rcases List.mem_cons.mp h with e | e
    · subst e
      exact List.sublist_cons_self x A
    · obtain ⟨q, hq, rfl⟩ := List.mem_map.mp e
      exact (ih hq).cons_cons x
theorem sel_len {A : List ι} {p : ι × List ι} (h : p ∈ sel A) : p.2.length + 1 = A.length := (sel_perm_mem h).length_eq
theorem sm_sel_fst (A : List ι) (g : ι → Rat) : sm (sel A) (fun p => g p.1) = sm A g := by
  induction A with
  | nil => rfl
  | cons x A ih =>
    show g x + sm ((sel A).map _) _ = _
    rw [sm_map, sm_cons, ← ih]
theorem sel_perm {o o' : List ι} (p : o.Perm o') : ∀ (h : ι → List ι → Rat), (∀ x r r', r.Perm r' → h x r = h x r') → sm (sel o) (fun q => h q.1 q.2) = sm (sel o') fun q => h q.1 q.2 := by
  induction p with
  | nil => exact fun _ _ => rfl
  | cons x p ih =>
    intro h hh
    show h x _ + sm ((sel _).map _) _ = h x _ + sm ((sel _).map _) _
    rw [sm_map, sm_map, hh x _ _ p, ih (fun y r => h y (x :: r)) fun y r r' q => hh y _ _ (q.cons x)]
  | swap x y l =>
    intro h hh
    show h y _ + sm ((((x, l)) :: (sel l).map fun p => (p.1, x :: p.2)).map fun p => (p.1, y :: p.2)) _ = h x _ + sm ((((y, l)) :: (sel l).map fun p => (p.1, y :: p.2)).map fun p => (p.1, x :: p.2)) _
    rw [List.map_cons, List.map_cons, sm_cons, sm_cons, List.map_map, List.map_map, sm_map, sm_map]
    have e : (sm (sel l) fun p => h p.1 (y :: x :: p.2)) = sm (sel l) fun p => h p.1 (x :: y :: p.2) := sm_congr fun p _ => hh _ _ _ (List.Perm.swap x y p.2)
    show h y (x :: l) + (h x (y :: l) + sm (sel l) fun p => h p.1 (y :: x :: p.2)) = h x (y :: l) + (h y (x :: l) + sm (sel l) fun p => h p.1 (x :: y :: p.2))
    rw [e]
    grind
  | trans _ _ ih1 ih2 => exact fun h hh => (ih1 h hh).trans (ih2 h hh)
theorem sel_swap (A : List ι) : ∀ Φ : ι → ι → List ι → Rat, sm (sel A) (fun p => sm (sel p.2) fun q => Φ p.1 q.1 q.2) = sm (sel A) fun p => sm (sel p.2) fun q => Φ q.1 p.1 q.2 := by
  induction A with
  | nil => exact fun _ => rfl
  | cons z A ih =>
    intro Φ
    have e : ∀ Ψ : ι → ι → List ι → Rat, sm (sel (z :: A)) (fun p => sm (sel p.2) fun q => Ψ p.1 q.1 q.2) = sm (sel A) (fun q => Ψ z q.1 q.2) + (sm (sel A) (fun p => Ψ p.1 z p.2) + sm (sel A) fun p => sm (sel p.2) fun q => Ψ p.1 q.1 (z :: q.2)) := fun Ψ => by
      show (sm (sel A) fun q => Ψ z q.1 q.2) + sm ((sel A).map _) _ = _
      rw [sm_map]
      have e3 : (sm (sel A) fun p => sm (sel (z :: p.2)) fun q => Ψ p.1 q.1 q.2) = sm (sel A) fun p => Ψ p.1 z p.2 + sm (sel p.2) fun q => Ψ p.1 q.1 (z :: q.2) := sm_congr fun p _ => by
        show Ψ p.1 z p.2 + sm ((sel p.2).map _) _ = _
        rw [sm_map]
      rw [← sm_add (sel A) (fun p => Ψ p.1 z p.2), ← e3]
    rw [e Φ, e fun x y r => Φ y x r, ih fun x y r => Φ x y (z :: r)]
    grind
/-- m draws (or until none is left), each with its weight -/
def Dl (wt : ι → Rat) : Nat → List ι → (List ι → Rat) → Rat
  | 0, _, f => f []
  | _ + 1, [], f => f []
  | m + 1, x :: A, f => sm (sel (x :: A)) fun p => wt p.1 / sm (x :: A) wt * Dl wt m p.2 fun o => f (p.1 :: o)
theorem Dl_succ (wt : ι → Rat) (m : Nat) {A : List ι} (h : A ≠ []) (f : List ι → Rat) : Dl wt (m + 1) A f = sm (sel A) fun p => wt p.1 / sm A wt * Dl wt m p.2 fun o => f (p.1 :: o) := by
  cases A with
  | nil => exact absurd rfl h
  | cons x A => rfl
theorem Dl_nil (wt : ι → Rat) (m : Nat) (f : List ι → Rat) : Dl wt m [] f = f [] := by cases m <;> rfl
theorem isEv_Dl (wt : ι → Rat) : ∀ (m : Nat) (A : List ι), IsEv (Dl wt m A)
  | 0, A => isEv_ret []
  | m + 1, [] => isEv_ret []
  | m + 1, x :: A => isEv_sum (fun p : ι × List ι => wt p.1 / sm (x :: A) wt) (fun p f => Dl wt m p.2 fun o => f (p.1 :: o)) (sel (x :: A)) fun p _ => (isEv_Dl wt m p.2).map (p.1 :: ·)
theorem sm_pos {wt : ι → Rat} : ∀ {A : List ι}, A ≠ [] → (∀ x ∈ A, 0 < wt x) → 0 < sm A wt
  | [], h, _ => absurd rfl h
  | [x], _, h => by
    rw [sm_cons, sm_nil]
    have := h x List.mem_cons_self
    grind
  | x :: y :: A, _, h => by
    have h1 := h x List.mem_cons_self
    have h2 := sm_pos (A := y :: A) (by simp) fun z hz => h z (List.mem_cons_of_mem _ hz)
    rw [sm_cons]
    grind
theorem Dl_congr (wt : ι → Rat) : ∀ (m : Nat) (A : List ι) (f g : List ι → Rat), (∀ o, o.length = min m A.length → f o = g o) → Dl wt m A f = Dl wt m A g
  | 0, A, f, g, h => h [] (by simp)
  | m + 1, [], f, g, h => h [] (by simp)
  | m + 1, x :: A, f, g, h => by
    refine sm_congr fun p hp => ?_
    have hl := sel_len hp
    rw [Dl_congr wt m p.2 _ (fun o => g (p.1 :: o)) fun o ho => h _ (by rw [List.length_cons, ho]; omega)]
theorem Dl_const {wt : ι → Rat} : ∀ (m : Nat) (A : List ι) (c : Rat), (∀ x ∈ A, 0 < wt x) → Dl wt m A (fun _ => c) = c
  | 0, A, c, _ => rfl
  | m + 1, [], c, _ => rfl
  | m + 1, x :: A, c, h => by
    have e : Dl wt (m + 1) (x :: A) (fun _ => c) = sm (sel (x :: A)) fun p => c / sm (x :: A) wt * wt p.1 := sm_congr fun p hp => by
      rw [Dl_const m p.2 c fun y hy => h y ((sel_sub hp).subset hy)]
      grind
    rw [e, sm_mul, sm_sel_fst]
    have := sm_pos (by simp) h
    grind
theorem Dl_sat (wt : ι → Rat) : ∀ (m : Nat) (A : List ι) (f : List ι → Rat), A.length ≤ m → Dl wt m A f = Dl wt A.length A f
  | m, [], f, _ => by rw [Dl_nil, Dl_nil]
  | 0, x :: A, f, h => by simp at h
  | m + 1, x :: A, f, h => by
    refine sm_congr fun p hp => ?_
    have hl := sel_len hp
    have hl' : p.2.length = A.length := by simpa using hl
    rw [Dl_sat wt m p.2 _ (by rw [hl']; simpa using h), hl']
theorem Dl_perm (wt : ι → Rat) : ∀ (m : Nat) {A A' : List ι} (f : List ι → Rat), A.Perm A' → Dl wt m A f = Dl wt m A' f
  | 0, _, _, f, _ => rfl
  | m + 1, [], A', f, h => by
    have e := h.symm.eq_nil
    subst e
    rfl
  | m + 1, x :: A, A', f, h => by
    have ne : A' ≠ [] := fun e => by
      subst e
      exact absurd h.length_eq (by simp)
    rw [Dl_succ wt m ne, Dl_succ wt m (by simp), sm_perm wt h]
    exact sel_perm h (fun y r => wt y / sm A' wt * Dl wt m r fun o => f (y :: o)) fun y r r' q => by rw [Dl_perm wt m _ q]
/-- the random one of the drawn, and the others -/
theorem exch {one : ι → Rat} (h1 : ∀ x, one x = 1) : ∀ (j : Nat) (A : List ι) (h : ι → List ι → Rat), A ≠ [] → (∀ x r r', r.Perm r' → h x r = h x r') →
    Dl one (j + 1) A (fun o => 1 / (o.length : Rat) * sm (sel o) fun p => h p.1 p.2) = sm (sel A) fun p => 1 / (A.length : Rat) * Dl one j p.2 fun o => h p.1 o := by
  have hlen : ∀ A : List ι, sm A one = (A.length : Rat) := fun A => by
    induction A with
    | nil => rfl
    | cons x A ih => rw [sm_cons, h1, ih, List.length_cons, Rat.natCast_add]; grind
  intro j
  induction j with
  | zero =>
    intro A h hA hh
    rw [Dl_succ one 0 hA, hlen]
    refine sm_congr fun p _ => ?_
    show one p.1 / _ * (1 / (([p.1] : List ι).length : Rat) * (h p.1 [] + 0)) = _ * h p.1 []
    rw [h1]
    show 1 / _ * (1 / ((1 : Nat) : Rat) * (h p.1 [] + 0)) = _
    have e : ((1 : Nat) : Rat) = 1 := rfl
    rw [e]
    grind
  | succ j ih =>
    intro A h hA hh
    rw [Dl_succ one (j + 1) hA, hlen]
    -- one item alone
    by_cases h2 : A.length = 1
    · refine sm_congr fun p hp => ?_
      have hl := sel_len hp
      have e : p.2 = [] := List.eq_nil_of_length_eq_zero (by omega)
      rw [e, Dl_nil, Dl_nil]
      show one p.1 / _ * (1 / (([p.1] : List ι).length : Rat) * (h p.1 [] + 0)) = _
      rw [h1]
      show 1 / _ * (1 / ((1 : Nat) : Rat) * (h p.1 [] + 0)) = _
      have e : ((1 : Nat) : Rat) = 1 := rfl
      rw [e]
      grind
    -- l: how many are drawn behind the first
    · have hAl : 2 ≤ A.length := by
        have : A.length ≠ 0 := fun e => hA (List.eq_nil_of_length_eq_zero e)
        omega
      obtain ⟨l, hl⟩ : ∃ l, l + 1 = min (j + 1) (A.length - 1) := ⟨min (j + 1) (A.length - 1) - 1, by omega⟩
      have l1 : (((l + 1 : Nat) : Rat)) ≠ 0 := fun z => by
        have q : l + 1 = 0 := by exact_mod_cast z
        omega
      have l2 : (((l + 1 + 1 : Nat) : Rat)) ≠ 0 := fun z => by
        have q : l + 1 + 1 = 0 := by exact_mod_cast z
        omega
      have step : ∀ p ∈ sel A, Dl one (j + 1) p.2 (fun o => 1 / (((p.1 :: o).length : Nat) : Rat) * sm (sel (p.1 :: o)) fun q => h q.1 q.2) =
          1 / ((l + 1 + 1 : Nat) : Rat) * (Dl one (j + 1) p.2 fun o => h p.1 o) + ((l + 1 : Nat) : Rat) / ((l + 1 + 1 : Nat) : Rat) * sm (sel p.2) fun q => 1 / ((A.length - 1 : Nat) : Rat) * Dl one j q.2 fun o => h q.1 (p.1 :: o) := by
        intro p hp
        have hpl := sel_len hp
        have hp1 : p.2.length = A.length - 1 := by omega
        have hp0 : p.2 ≠ [] := fun e => by rw [e] at hp1; simp at hp1; omega
        have i2 := ih p.2 (fun x r => h x (p.1 :: r)) hp0 fun x r r' q => hh x _ _ (q.cons _)
        rw [hp1] at i2
        have e : Dl one (j + 1) p.2 (fun o => 1 / (((p.1 :: o).length : Nat) : Rat) * sm (sel (p.1 :: o)) fun q => h q.1 q.2) =
            Dl one (j + 1) p.2 fun o => 1 / ((l + 1 + 1 : Nat) : Rat) * h p.1 o + ((l + 1 : Nat) : Rat) / ((l + 1 + 1 : Nat) : Rat) * (1 / (o.length : Rat) * sm (sel o) fun q => h q.1 (p.1 :: q.2)) := by
          refine Dl_congr _ _ _ _ _ fun o ho => ?_
          have ho' : o.length = l + 1 := by rw [ho, hp1, hl]
          rw [List.length_cons, ho']
          show _ * (h p.1 o + sm ((sel o).map _) _) = _
          rw [sm_map]
          generalize ((l + 1 : Nat) : Rat) = u at l1
          generalize ((l + 1 + 1 : Nat) : Rat) = v at l2
          grind
        rw [e, (isEv_Dl one (j + 1) p.2).add, (isEv_Dl one (j + 1) p.2).mul, (isEv_Dl one (j + 1) p.2).mul, i2]
      have e1 : (sm (sel A) fun p => one p.1 / (A.length : Rat) * Dl one (j + 1) p.2 fun o => 1 / (((p.1 :: o).length : Nat) : Rat) * sm (sel (p.1 :: o)) fun q => h q.1 q.2) =
          sm (sel A) (fun p => (1 / (A.length : Rat) * (1 / ((l + 1 + 1 : Nat) : Rat))) * Dl one (j + 1) p.2 fun o => h p.1 o) +
          sm (sel A) fun p => sm (sel p.2) fun q => (1 / (A.length : Rat) * (((l + 1 : Nat) : Rat) / ((l + 1 + 1 : Nat) : Rat))) * (1 / ((A.length - 1 : Nat) : Rat) * Dl one j q.2 fun o => h q.1 (p.1 :: o)) := by
        rw [← sm_add]
        refine sm_congr fun p hp => ?_
        have q := sm_mul (1 / (A.length : Rat) * (((l + 1 : Nat) : Rat) / ((l + 1 + 1 : Nat) : Rat))) (sel p.2) fun q => 1 / ((A.length - 1 : Nat) : Rat) * Dl one j q.2 fun o => h q.1 (p.1 :: o)
        rw [step p hp, h1, q]
        generalize (sm (sel p.2) fun q => 1 / ((A.length - 1 : Nat) : Rat) * Dl one j q.2 fun o => h q.1 (p.1 :: o)) = Y
        generalize (Dl one (j + 1) p.2 fun o => h p.1 o) = X
        clear q step ih
        grind
      rw [e1, sel_swap A fun x y r => (1 / (A.length : Rat) * (((l + 1 : Nat) : Rat) / ((l + 1 + 1 : Nat) : Rat))) * (1 / ((A.length - 1 : Nat) : Rat) * Dl one j r fun o => h y (x :: o)), ← sm_add]
      refine sm_congr fun p hp => ?_
      have hpl := sel_len hp
      have hp1 : p.2.length = A.length - 1 := by omega
      have hp0 : p.2 ≠ [] := fun e => by rw [e] at hp1; simp at hp1; omega
      have q := sm_mul (1 / (A.length : Rat) * (((l + 1 : Nat) : Rat) / ((l + 1 + 1 : Nat) : Rat))) (sel p.2) fun q => 1 / ((A.length - 1 : Nat) : Rat) * Dl one j q.2 fun o => h p.1 (q.1 :: o)
      rw [q]
      have e2 : (sm (sel p.2) fun q => 1 / ((A.length - 1 : Nat) : Rat) * Dl one j q.2 fun o => h p.1 (q.1 :: o)) = Dl one (j + 1) p.2 fun o => h p.1 o := by
        rw [Dl_succ one j hp0, hlen, hp1]
        exact sm_congr fun q _ => by rw [h1]
      rw [e2]
      have e3 : ((l + 1 + 1 : Nat) : Rat) = ((l + 1 : Nat) : Rat) + 1 := by rw [Rat.natCast_add]; rfl
      rw [e3] at l2 ⊢
      generalize ((l + 1 : Nat) : Rat) = u at l1 l2
      generalize (Dl one (j + 1) p.2 fun o => h p.1 o) = X
      generalize 1 / (A.length : Rat) = a
      clear e1 step ih
      grind
end
end Sam

set_option maxHeartbeats 4000000
namespace Sam
section
variable {ι : Type}
/-- the draws of a merge of weighted samples -/
def mW (wt : ι → Int) : Nat → Int → Int → List ι → List ι → Tr (List ι)
  | 0, _, _, _, _ => .ret []
  | m + 1, l1, l2, K1, K2 => if 0 < l1 + l2 then .pick [l1, l2] (fun s => match s with
      | 0 => (match K1 with
        | [] => .ret []
        | x :: K => (mW wt m (l1 - wt x) l2 K K2).bind fun o => .ret (x :: o))
      | _ + 1 => (match K2 with
        | [] => .ret []
        | x :: K => (mW wt m l1 (l2 - wt x) K1 K).bind fun o => .ret (x :: o)))
    else .ret []
/-- .. of uniform samples -/
def mU : Nat → Int → Int → List ι → List ι → Tr (List ι)
  | 0, _, _, _, _ => .ret []
  | m + 1, s1, s2, K1, K2 => .pick [s1, s2] fun s => match s with
      | 0 => .pick (List.replicate K1.length 1) fun i => (match K1[i]? with
        | none => .ret []
        | some x => (mU m (s1 - 1) s2 (K1.eraseIdx i) K2).bind fun o => .ret (x :: o))
      | _ + 1 => .pick (List.replicate K2.length 1) fun i => (match K2[i]? with
        | none => .ret []
        | some x => (mU m s1 (s2 - 1) K1 (K2.eraseIdx i)).bind fun o => .ret (x :: o))
theorem ev_pair (a b : Int) (k : Nat → Tr (List ι)) (f : List ι → Rat) : ev (.pick [a, b] k) f = (a : Rat) / ((a : Rat) + (b : Rat)) * ev (k 0) f + (b : Rat) / ((a : Rat) + (b : Rat)) * ev (k 1) f := by
  show sm (List.range 2) (fun n => frac [a, b] n * ev (k n) f) = _
  have e : List.range 2 = [0, 1] := by decide
  rw [e, sm_cons, sm_cons, sm_nil, frac_div, frac_div]
  show ((a : Int) : Rat) / (((a + (b + 0) : Int)) : Rat) * _ + (((b : Int) : Rat) / (((a + (b + 0) : Int)) : Rat) * _ + 0) = _
  rw [Int.add_zero, Rat.intCast_add]
  grind
theorem sm_idx (K : List ι) : ∀ (g : ι → List ι → Rat) (z : Rat), sm (List.range K.length) (fun i => match K[i]? with
    | some x => g x (K.eraseIdx i)
    | none => z) = sm (sel K) fun p => g p.1 p.2 := by
  induction K with
  | nil => exact fun _ _ => rfl
  | cons x K ih =>
    intro g z
    rw [List.length_cons, List.range_succ_eq_map, sm_cons, sm_map]
    show g x K + _ = g x K + sm ((sel K).map _) _
    rw [sm_map, ← ih (fun y r => g y (x :: r)) z]
    rfl
theorem sum_rep (n : Nat) : (List.replicate n (1 : Int)).sum = n := by
  induction n with
  | zero => rfl
  | succ n ih => rw [List.replicate_succ, List.sum_cons, ih]; omega
theorem ev_ones (n : Nat) (k : Nat → Tr (List ι)) (f : List ι → Rat) : ev (.pick (List.replicate n 1) k) f = 1 / (n : Rat) * sm (List.range n) fun i => ev (k i) f := by
  show sm (List.range (List.replicate n (1 : Int)).length) _ = _
  rw [List.length_replicate, ← sm_mul]
  refine sm_congr fun i hi => ?_
  have e : wAt (List.replicate n 1) i = 1 := by
    unfold wAt
    rw [List.getD_eq_getElem?_getD, List.getElem?_replicate, if_pos (List.mem_range.mp hi)]
    rfl
  rw [frac_div, e, sum_rep]
  rfl
theorem sum_sm (wt : ι → Int) (A : List ι) : (((A.map wt).sum : Int) : Rat) = sm A fun x => (wt x : Rat) := by
  induction A with
  | nil => rfl
  | cons x A ih => rw [List.map_cons, List.sum_cons, Rat.intCast_add, ih, sm_cons]
theorem perm_sum {l m : List Int} (h : l.Perm m) : l.sum = m.sum := by
  induction h with
  | nil => rfl
  | cons x _ ih => rw [List.sum_cons, List.sum_cons, ih]
  | swap x y l => rw [List.sum_cons, List.sum_cons, List.sum_cons, List.sum_cons]; omega
  | trans _ _ a b => exact a.trans b
theorem sum_sel (wt : ι → Int) {A : List ι} {p : ι × List ι} (h : p ∈ sel A) : (A.map wt).sum - wt p.1 = (p.2.map wt).sum := by
  have q := perm_sum ((sel_perm_mem h).map wt)
  rw [List.map_cons, List.sum_cons] at q
  omega
theorem sum_pos' (wt : ι → Int) : ∀ {A : List ι}, A ≠ [] → (∀ x ∈ A, 0 < wt x) → 0 < (A.map wt).sum
  | [], h, _ => absurd rfl h
  | [x], _, h => by
    have := h x List.mem_cons_self
    show 0 < wt x + 0
    omega
  | x :: y :: A, _, h => by
    have h1 := h x List.mem_cons_self
    have h2 := sum_pos' wt (A := y :: A) (by simp) fun z hz => h z (List.mem_cons_of_mem _ hz)
    rw [List.map_cons, List.sum_cons]
    omega
/-- merged weighted draws are the draws of all -/
theorem merge_W (wt : ι → Int) : ∀ (m : Nat) (A B : List ι) (j1 j2 : Nat) (f : List ι → Rat), m ≤ j1 → m ≤ j2 → (∀ x ∈ A, 0 < wt x) → (∀ x ∈ B, 0 < wt x) →
    Dl (fun x => (wt x : Rat)) j1 A (fun o1 => Dl (fun x => (wt x : Rat)) j2 B fun o2 => ev (mW wt m (A.map wt).sum (B.map wt).sum o1 o2) f) = Dl (fun x => (wt x : Rat)) m (A ++ B) f := by
  intro m
  have cast : ∀ {A : List ι}, (∀ x ∈ A, 0 < wt x) → ∀ x ∈ A, (0 : Rat) < (wt x : Rat) := fun h x hx => by
    have := h x hx
    exact_mod_cast this
  induction m with
  | zero =>
    intro A B j1 j2 f _ _ hA hB
    show Dl _ j1 A (fun _ => Dl _ j2 B fun _ => f []) = f []
    have e : (fun _ : List ι => Dl (fun x => (wt x : Rat)) j2 B fun _ => f []) = fun _ => f [] := funext fun _ => Dl_const j2 B (f []) (cast hB)
    rw [e, Dl_const j1 A (f []) (cast hA)]
  | succ m ih =>
    intro A B j1 j2 f h1 h2 hA hB
    generalize hw : (fun x => (wt x : Rat)) = w at *
    have hsA : ((A.map wt).sum : Rat) = sm A w := by rw [sum_sm, hw]
    have hsB : ((B.map wt).sum : Rat) = sm B w := by rw [sum_sm, hw]
    have cA : ∀ x ∈ A, 0 < w x := fun x hx => by rw [← hw]; exact cast hA x hx
    have cB : ∀ x ∈ B, 0 < w x := fun x hx => by rw [← hw]; exact cast hB x hx
    by_cases hE : A ++ B = []
    · obtain ⟨rfl, rfl⟩ := List.append_eq_nil_iff.mp hE
      rw [Dl_nil, Dl_nil]
      show ev (if (0 : Int) < 0 + 0 then _ else .ret []) f = f []
      rw [if_neg (by decide)]
      rfl
    have hpos : 0 < (A.map wt).sum + (B.map wt).sum := by
      have a0 : 0 ≤ (A.map wt).sum := by
        by_cases e : A = []
        · subst e; exact Int.le_refl _
        · exact Int.le_of_lt (sum_pos' wt e hA)
      have b0 : 0 ≤ (B.map wt).sum := by
        by_cases e : B = []
        · subst e; exact Int.le_refl _
        · exact Int.le_of_lt (sum_pos' wt e hB)
      by_cases e : A = []
      · have eB : B ≠ [] := fun z => hE (by rw [e, z]; rfl)
        have := sum_pos' wt eB hB
        omega
      · have := sum_pos' wt e hA
        omega
    have hW : sm (A ++ B) w = sm A w + sm B w := sm_append A B w
    -- the two sides
    let F1 : List ι → List ι → Rat := fun o1 o2 => match o1 with
      | [] => f []
      | x :: K => ev (mW wt m ((A.map wt).sum - wt x) (B.map wt).sum K o2) fun o => f (x :: o)
    let F2 : List ι → List ι → Rat := fun o1 o2 => match o2 with
      | [] => f []
      | x :: K => ev (mW wt m (A.map wt).sum ((B.map wt).sum - wt x) o1 K) fun o => f (x :: o)
    have e0 : ∀ o1 o2, ev (mW wt (m + 1) (A.map wt).sum (B.map wt).sum o1 o2) f = sm A w / (sm A w + sm B w) * F1 o1 o2 + sm B w / (sm A w + sm B w) * F2 o1 o2 := fun o1 o2 => by
      show ev (if 0 < (A.map wt).sum + (B.map wt).sum then _ else _) f = _
      rw [if_pos hpos, ev_pair, hsA, hsB]
      congr 1
      · congr 1
        cases o1 with
        | nil => rfl
        | cons x K => exact ev_bind _ _ _
      · congr 1
        cases o2 with
        | nil => rfl
        | cons x K => exact ev_bind _ _ _
    have e1 : (fun o1 => Dl w j2 B fun o2 => ev (mW wt (m + 1) (A.map wt).sum (B.map wt).sum o1 o2) f) = fun o1 => sm A w / (sm A w + sm B w) * (Dl w j2 B (F1 o1)) + sm B w / (sm A w + sm B w) * (Dl w j2 B (F2 o1)) := funext fun o1 => by
      have e2 : (fun o2 => ev (mW wt (m + 1) (A.map wt).sum (B.map wt).sum o1 o2) f) = fun o2 => sm A w / (sm A w + sm B w) * F1 o1 o2 + sm B w / (sm A w + sm B w) * F2 o1 o2 := funext fun o2 => e0 o1 o2
      rw [e2, (isEv_Dl w j2 B).add (fun o2 => sm A w / (sm A w + sm B w) * F1 o1 o2) fun o2 => sm B w / (sm A w + sm B w) * F2 o1 o2, (isEv_Dl w j2 B).mul (sm A w / (sm A w + sm B w)) (F1 o1), (isEv_Dl w j2 B).mul (sm B w / (sm A w + sm B w)) (F2 o1)]
    rw [e1, (isEv_Dl w j1 A).add, (isEv_Dl w j1 A).mul, (isEv_Dl w j1 A).mul, (isEv_Dl w j1 A).comm (isEv_Dl w j2 B) F2]
    -- from the first
    have t1 : sm A w / (sm A w + sm B w) * Dl w j1 A (fun o1 => Dl w j2 B (F1 o1)) = sm (sel A) fun p => w p.1 / (sm A w + sm B w) * Dl w m (p.2 ++ B) fun o => f (p.1 :: o) := by
      by_cases e : A = []
      · subst e
        rw [sm_nil]
        show 0 / _ * _ = 0
        grind
      · obtain ⟨j, rfl⟩ : ∃ j, j1 = j + 1 := ⟨j1 - 1, by omega⟩
        rw [Dl_succ w j e, ← sm_mul]
        refine sm_congr fun p hp => ?_
        have e3 : (Dl w j p.2 fun o => Dl w j2 B (F1 (p.1 :: o))) = Dl w m (p.2 ++ B) fun o => f (p.1 :: o) := by
          rw [← ih p.2 B j j2 (fun o => f (p.1 :: o)) (by omega) (by omega) (fun y hy => hA y ((sel_sub hp).subset hy)) hB, ← sum_sel wt hp]
        rw [e3]
        have := sm_pos e cA
        grind
    have t2 : sm B w / (sm A w + sm B w) * Dl w j2 B (fun o2 => Dl w j1 A fun o1 => F2 o1 o2) = sm (sel B) fun p => w p.1 / (sm A w + sm B w) * Dl w m (A ++ p.2) fun o => f (p.1 :: o) := by
      by_cases e : B = []
      · subst e
        rw [sm_nil]
        show 0 / _ * _ = 0
        grind
      · obtain ⟨j, rfl⟩ : ∃ j, j2 = j + 1 := ⟨j2 - 1, by omega⟩
        rw [Dl_succ w j e, ← sm_mul]
        refine sm_congr fun p hp => ?_
        have e3 : (Dl w j p.2 fun o => Dl w j1 A fun o1 => F2 o1 (p.1 :: o)) = Dl w m (A ++ p.2) fun o => f (p.1 :: o) := by
          rw [← ih A p.2 j1 j (fun o => f (p.1 :: o)) (by omega) (by omega) hA (fun y hy => hB y ((sel_sub hp).subset hy)), ← sum_sel wt hp]
          exact ((isEv_Dl w j1 A).comm (isEv_Dl w j p.2) fun o1 o => F2 o1 (p.1 :: o)).symm
        rw [e3]
        have := sm_pos e cB
        grind
    rw [t1, t2, Dl_succ w m hE, sel_append, sm_append, sm_map, sm_map, hW]
/-! ### uniform -/
/-- what the sort of the kept items must be -/
structure SrtOk (srt : List ι → List ι) : Prop where
  perm : ∀ l, (srt l).Perm l
  same : ∀ l l', l.Perm l' → srt l = srt l'
  sub : ∀ l r, r.Sublist (srt l) → srt r = r
theorem sm_sel_srt {srt : List ι → List ι} (S : SrtOk srt) (o : List ι) (G : ι → List ι → Rat) : sm (sel (srt o)) (fun p => G p.1 p.2) = sm (sel o) fun p => G p.1 (srt p.2) := by
  rw [← sel_perm (S.perm o) (fun x r => G x (srt r)) fun x r r' h => by rw [S.same r r' h]]
  exact sm_congr fun p hp => by rw [S.sub o p.2 (sel_sub hp)]
/-- the first pick of a side -/
theorem ev_side {srt : List ι → List ι} (S : SrtOk srt) (o : List ι) (k : ι → List ι → Tr (List ι)) (f : List ι → Rat) :
    ev (.pick (List.replicate (srt o).length 1) fun i => (match (srt o)[i]? with
      | none => .ret []
      | some x => (k x ((srt o).eraseIdx i)).bind fun o => .ret (x :: o))) f = 1 / (o.length : Rat) * sm (sel o) fun p => ev (k p.1 (srt p.2)) fun q => f (p.1 :: q) := by
  rw [ev_ones, (S.perm o).length_eq]
  congr 1
  rw [← sm_sel_srt S o (fun x r => ev (k x r) fun q => f (x :: q)), ← sm_idx (srt o) (fun x r => ev (k x r) fun q => f (x :: q)) (f []), (S.perm o).length_eq]
  refine sm_congr fun i _ => ?_
  cases (srt o)[i]? with
  | none => rfl
  | some x => exact ev_bind _ _ _
theorem merge_U {srt : List ι → List ι} (S : SrtOk srt) : ∀ (m : Nat) (A B : List ι) (j1 j2 : Nat) (f : List ι → Rat), m ≤ j1 → m ≤ j2 → m ≤ A.length + B.length →
    Dl (fun _ => 1) j1 A (fun o1 => Dl (fun _ => 1) j2 B fun o2 => ev (mU m A.length B.length (srt o1) (srt o2)) f) = Dl (fun _ => 1) m (A ++ B) f := by
  intro m
  generalize hw : (fun _ : ι => (1 : Rat)) = w
  have w1 : ∀ x, w x = 1 := fun x => by rw [← hw]
  have hlen : ∀ A : List ι, sm A w = (A.length : Rat) := fun A => by
    induction A with
    | nil => rfl
    | cons x A ih => rw [sm_cons, w1, ih, List.length_cons, Rat.natCast_add]; grind
  have wp : ∀ (A : List ι), ∀ x ∈ A, 0 < w x := fun A x _ => by rw [w1]; decide
  induction m with
  | zero =>
    intro A B j1 j2 f _ _ _
    show Dl _ j1 A (fun _ => Dl _ j2 B fun _ => f []) = f []
    have e : (fun _ : List ι => Dl w j2 B fun _ => f []) = fun _ => f [] := funext fun _ => Dl_const j2 B (f []) (wp B)
    rw [e, Dl_const j1 A (f []) (wp A)]
  | succ m ih =>
    intro A B j1 j2 f h1 h2 h3
    have hE : A ++ B ≠ [] := fun z => by
      obtain ⟨rfl, rfl⟩ := List.append_eq_nil_iff.mp z
      simp at h3
    have hW : sm (A ++ B) w = sm A w + sm B w := sm_append A B w
    let G1 : List ι → ι → List ι → Rat := fun o2 x r => ev (mU m ((A.length : Int) - 1) B.length (srt r) (srt o2)) fun q => f (x :: q)
    let G2 : List ι → ι → List ι → Rat := fun o1 x r => ev (mU m A.length ((B.length : Int) - 1) (srt o1) (srt r)) fun q => f (x :: q)
    let F1 : List ι → List ι → Rat := fun o1 o2 => 1 / (o1.length : Rat) * sm (sel o1) fun p => G1 o2 p.1 p.2
    let F2 : List ι → List ι → Rat := fun o1 o2 => 1 / (o2.length : Rat) * sm (sel o2) fun p => G2 o1 p.1 p.2
    have e0 : ∀ o1 o2, ev (mU (m + 1) A.length B.length (srt o1) (srt o2)) f = sm A w / (sm A w + sm B w) * F1 o1 o2 + sm B w / (sm A w + sm B w) * F2 o1 o2 := fun o1 o2 => by
      rw [hlen, hlen]
      refine (ev_pair _ _ _ f).trans ?_
      rw [Rat.intCast_natCast, Rat.intCast_natCast]
      congr 1
      · congr 1
        exact ev_side S o1 (fun x r => mU m ((A.length : Int) - 1) B.length r (srt o2)) f
      · congr 1
        exact ev_side S o2 (fun x r => mU m A.length ((B.length : Int) - 1) (srt o1) r) f
    have e1 : (fun o1 => Dl w j2 B fun o2 => ev (mU (m + 1) A.length B.length (srt o1) (srt o2)) f) = fun o1 => sm A w / (sm A w + sm B w) * (Dl w j2 B (F1 o1)) + sm B w / (sm A w + sm B w) * (Dl w j2 B (F2 o1)) := funext fun o1 => by
      have e2 : (fun o2 => ev (mU (m + 1) A.length B.length (srt o1) (srt o2)) f) = fun o2 => sm A w / (sm A w + sm B w) * F1 o1 o2 + sm B w / (sm A w + sm B w) * F2 o1 o2 := funext fun o2 => e0 o1 o2
      rw [e2, (isEv_Dl w j2 B).add (fun o2 => sm A w / (sm A w + sm B w) * F1 o1 o2) fun o2 => sm B w / (sm A w + sm B w) * F2 o1 o2, (isEv_Dl w j2 B).mul (sm A w / (sm A w + sm B w)) (F1 o1), (isEv_Dl w j2 B).mul (sm B w / (sm A w + sm B w)) (F2 o1)]
    rw [e1, (isEv_Dl w j1 A).add, (isEv_Dl w j1 A).mul, (isEv_Dl w j1 A).mul, (isEv_Dl w j1 A).comm (isEv_Dl w j2 B) F2]
    have t1 : sm A w / (sm A w + sm B w) * Dl w j1 A (fun o1 => Dl w j2 B (F1 o1)) = sm (sel A) fun p => w p.1 / (sm A w + sm B w) * Dl w m (p.2 ++ B) fun o => f (p.1 :: o) := by
      by_cases e : A = []
      · subst e
        show 0 / _ * _ = 0
        grind
      · obtain ⟨j, rfl⟩ : ∃ j, j1 = j + 1 := ⟨j1 - 1, by omega⟩
        have e4 : (fun o1 => Dl w j2 B (F1 o1)) = fun o1 => 1 / (o1.length : Rat) * sm (sel o1) fun p => Dl w j2 B fun o2 => G1 o2 p.1 p.2 := funext fun o1 => by
          rw [← (isEv_Dl w j2 B).sum, ← (isEv_Dl w j2 B).mul]
        rw [e4, exch w1 j A (fun x r => Dl w j2 B fun o2 => G1 o2 x r) e fun x r r' h => by simp only [G1, S.same r r' h], ← sm_mul]
        refine sm_congr fun p hp => ?_
        have hl := sel_len hp
        have e3 : (Dl w j p.2 fun o => Dl w j2 B fun o2 => G1 o2 p.1 o) = Dl w m (p.2 ++ B) fun o => f (p.1 :: o) := by
          rw [← ih p.2 B j j2 (fun o => f (p.1 :: o)) (by omega) (by omega) (by omega)]
          have e5 : ((p.2.length : Nat) : Int) = (A.length : Int) - 1 := by omega
          rw [e5]
        rw [e3, w1, ← hlen]
        have := sm_pos e (wp A)
        grind
    have t2 : sm B w / (sm A w + sm B w) * Dl w j2 B (fun o2 => Dl w j1 A fun o1 => F2 o1 o2) = sm (sel B) fun p => w p.1 / (sm A w + sm B w) * Dl w m (A ++ p.2) fun o => f (p.1 :: o) := by
      by_cases e : B = []
      · subst e
        show 0 / _ * _ = 0
        grind
      · obtain ⟨j, rfl⟩ : ∃ j, j2 = j + 1 := ⟨j2 - 1, by omega⟩
        have e4 : (fun o2 => Dl w j1 A fun o1 => F2 o1 o2) = fun o2 => 1 / (o2.length : Rat) * sm (sel o2) fun p => Dl w j1 A fun o1 => G2 o1 p.1 p.2 := funext fun o2 => by
          rw [← (isEv_Dl w j1 A).sum, ← (isEv_Dl w j1 A).mul]
        rw [e4, exch w1 j B (fun x r => Dl w j1 A fun o1 => G2 o1 x r) e fun x r r' h => by simp only [G2, S.same r r' h], ← sm_mul]
        refine sm_congr fun p hp => ?_
        have hl := sel_len hp
        have e3 : (Dl w j p.2 fun o => Dl w j1 A fun o1 => G2 o1 p.1 o) = Dl w m (A ++ p.2) fun o => f (p.1 :: o) := by
          rw [← ih A p.2 j1 j (fun o => f (p.1 :: o)) (by omega) (by omega) (by omega)]
          have e5 : ((p.2.length : Nat) : Int) = (B.length : Int) - 1 := by omega
          rw [e5]
          exact ((isEv_Dl w j1 A).comm (isEv_Dl w j p.2) fun o1 o => G2 o1 p.1 o).symm
        rw [e3, w1, ← hlen]
        have := sm_pos e (wp B)
        grind
    rw [t1, t2, Dl_succ w m hE, sel_append, sm_append, sm_map, sm_map, hW]
end
end Sam

set_option maxHeartbeats 4000000
namespace Sam
open PySem
/-! ### items, samples, stores -/
structure Itm where
  a : Addr
  key : Str
  grp : Str
  w : Int
  am : Int
/-- un: uniform (else weighted) -/
structure Smp where
  un : Bool
  size : Nat
  tot : Int
  kept : List Itm
abbrev Rule := Bool × Nat
def wtOf (un : Bool) (x : Itm) : Int := bif un then 1 else x.w
def single (r : Rule) (x : Itm) : Smp := ⟨r.1, r.2, wtOf r.1 x, [x]⟩
def empty_ (r : Rule) : Smp := ⟨r.1, r.2, 0, []⟩
section
variable (srt : List Itm → List Itm)
def mergeT (s t : Smp) : Tr Smp := bif s.un then (mU (min s.size (s.tot + t.tot).toNat) s.tot t.tot s.kept t.kept).bind fun o => .ret ⟨true, s.size, s.tot + t.tot, srt o⟩
  else (mW (fun x : Itm => x.w) s.size s.tot t.tot s.kept t.kept).bind fun o => .ret ⟨false, s.size, s.tot + t.tot, o⟩
/-- the plain law of a sample of the items A -/
def PS (r : Rule) (A : List Itm) (f : Smp → Rat) : Rat := Dl (fun x => (wtOf r.1 x : Rat)) r.2 A fun o => f ⟨r.1, r.2, (A.map (wtOf r.1)).sum, bif r.1 then srt o else o⟩
theorem isEv_PS (r : Rule) (A : List Itm) : IsEv (PS srt r A) := (isEv_Dl _ _ _).map fun o => (⟨r.1, r.2, (A.map (wtOf r.1)).sum, bif r.1 then srt o else o⟩ : Smp)
theorem sum_one (A : List Itm) : (A.map (wtOf true)).sum = (A.length : Int) := by
  induction A with
  | nil => rfl
  | cons x A ih => rw [List.map_cons, List.sum_cons, ih, List.length_cons]; show (1 : Int) + _ = _; omega
variable {srt}
theorem PS_merge (S : SrtOk srt) (r : Rule) (A B : List Itm) (hA : ∀ x ∈ A, 0 < x.w) (hB : ∀ x ∈ B, 0 < x.w) (f : Smp → Rat) : PS srt r A (fun s => PS srt r B fun t => ev (mergeT srt s t) f) = PS srt r (A ++ B) f := by
  obtain ⟨un, k⟩ := r
  have hs : ((A ++ B).map (wtOf un)).sum = (A.map (wtOf un)).sum + (B.map (wtOf un)).sum := by rw [List.map_append, List.sum_append]
  cases un with
  | false =>
    have z := merge_W (fun x : Itm => x.w) k A B k k (fun o => f ⟨false, k, (A.map (wtOf false)).sum + (B.map (wtOf false)).sum, o⟩) (Nat.le_refl _) (Nat.le_refl _) hA hB
    refine Eq.trans ?_ (z.trans ?_)
    · refine congrArg (Dl _ k A) (funext fun o1 => congrArg (Dl _ k B) (funext fun o2 => ?_))
      exact ev_bind _ _ _
    · show Dl _ k (A ++ B) _ = Dl _ k (A ++ B) _
      rw [hs]
      rfl
  | true =>
    rw [sum_one, sum_one, sum_one] at hs
    have z := merge_U S (min k (A.length + B.length)) A B k k (fun o => f ⟨true, k, (A.length : Int) + B.length, srt o⟩) (Nat.min_le_left _ _) (Nat.min_le_left _ _) (Nat.min_le_right _ _)
    have e1 : (fun x => (wtOf true x : Rat)) = fun _ => 1 := rfl
    have e2 : ∀ g, Dl (fun _ => (1 : Rat)) (min k (A.length + B.length)) (A ++ B) g = Dl (fun _ => (1 : Rat)) k (A ++ B) g := fun g => by
      by_cases h : k ≤ A.length + B.length
      · rw [Nat.min_eq_left h]
      · rw [Nat.min_eq_right (by omega), ← List.length_append, Dl_sat _ k (A ++ B) g (by rw [List.length_append]; omega)]
    rw [e2] at z
    refine Eq.trans ?_ (z.trans ?_)
    · unfold PS
      rw [sum_one, sum_one]
      refine congrArg (Dl _ k A) (funext fun o1 => congrArg (Dl _ k B) (funext fun o2 => ?_))
      show ev ((mU (min k (((A.length : Int) + B.length)).toNat) _ _ _ _).bind _) f = _
      rw [ev_bind, show (((A.length : Int) + B.length)).toNat = A.length + B.length by omega]
      rfl
    · unfold PS
      rw [sum_one, hs]
      rfl
theorem srt_nil (S : SrtOk srt) : srt [] = [] := (S.perm []).eq_nil
theorem srt_one (S : SrtOk srt) (x : Itm) : srt [x] = [x] := (S.perm [x]).eq_singleton
theorem PS_nil (S : SrtOk srt) (r : Rule) (f : Smp → Rat) : PS srt r [] f = f (empty_ r) := by
  unfold PS
  rw [Dl_nil]
  obtain ⟨un, k⟩ := r
  cases un with
  | false => rfl
  | true =>
    show f ⟨true, k, 0, srt []⟩ = _
    rw [srt_nil S]
    rfl
theorem PS_one (S : SrtOk srt) (r : Rule) (hr : 1 ≤ r.2) (x : Itm) (hx : 0 < x.w) (f : Smp → Rat) : PS srt r [x] f = f (single r x) := by
  unfold PS
  obtain ⟨un, k⟩ := r
  obtain ⟨j, rfl⟩ : ∃ j, k = j + 1 := ⟨k - 1, by have : 1 ≤ k := hr; omega⟩
  rw [Dl_succ _ _ (by simp)]
  show (wtOf un x : Rat) / ((wtOf un x : Rat) + 0) * Dl _ j [] _ + 0 = _
  rw [Dl_nil]
  have h0 : (wtOf un x : Rat) ≠ 0 := fun z => by
    have q : wtOf un x = 0 := by exact_mod_cast z
    cases un with
    | false => have q' : x.w = 0 := q; omega
    | true => exact absurd q (show ¬ (1 : Int) = 0 by decide)
  have e : (wtOf un x : Rat) / ((wtOf un x : Rat) + 0) = 1 := by grind
  rw [e]
  have e2 : (⟨un, j + 1, ([x].map (wtOf un)).sum, bif un then srt [x] else [x]⟩ : Smp) = single (un, j + 1) x := by
    unfold single
    rw [srt_one S]
    cases un <;> simp
  show 1 * f ⟨un, j + 1, ([x].map (wtOf un)).sum, bif un then srt [x] else [x]⟩ + 0 = _
  rw [e2]
  grind
theorem PS_perm (r : Rule) {A B : List Itm} (h : A.Perm B) (f : Smp → Rat) : PS srt r A f = PS srt r B f := by
  unfold PS
  rw [Dl_perm _ _ _ h, perm_sum (h.map (wtOf r.1))]
/-! ### several places -/
def EP : List ((Smp → Rat) → Rat) → (List Smp → Rat) → Rat
  | [], f => f []
  | φ :: φs, f => φ fun s => EP φs fun ss => f (s :: ss)
theorem isEv_EP : ∀ (φs : List ((Smp → Rat) → Rat)), (∀ φ ∈ φs, IsEv φ) → IsEv (EP φs)
  | [], _ => isEv_ret []
  | φ :: φs, h => IsEv.bind (φ := φ) (ψ := fun s f => EP φs fun ss => f (s :: ss)) (h φ List.mem_cons_self) fun s => (isEv_EP φs fun ψ hψ => h ψ (List.mem_cons_of_mem _ hψ)).map (s :: ·)
theorem EP_set (g : Smp → Tr Smp) (d : Smp) : ∀ (φs : List ((Smp → Rat) → Rat)) (i : Nat) (φ : (Smp → Rat) → Rat) (F : List Smp → Rat), (∀ φ ∈ φs, IsEv φ) → φs[i]? = some φ →
    EP φs (fun ss => ev (g (ss.getD i d)) fun s' => F (ss.set i s')) = EP (φs.set i fun h => φ fun s => ev (g s) h) F
  | [], i, φ, F, _, h => by simp at h
  | φ0 :: φs, 0, φ, F, hφ, h => by
    have e : φ0 = φ := by simpa using h
    subst e
    show φ0 (fun s => EP φs fun ss => ev (g s) fun s' => F (s' :: ss)) = φ0 fun s => ev (g s) fun s' => EP φs fun ss => F (s' :: ss)
    exact congrArg φ0 (funext fun s => (isEv_EP φs fun ψ hψ => hφ ψ (List.mem_cons_of_mem _ hψ)).comm (isEv_ev (g s)) fun ss s' => F (s' :: ss))
  | φ0 :: φs, i + 1, φ, F, hφ, h => by
    show φ0 (fun s => EP φs fun ss => ev (g (ss.getD i d)) fun s' => F (s :: ss.set i s')) = φ0 fun s => EP (φs.set i _) fun ss => F (s :: ss)
    exact congrArg φ0 (funext fun s => EP_set g d φs i φ (fun ss => F (s :: ss)) (fun ψ hψ => hφ ψ (List.mem_cons_of_mem _ hψ)) (by simpa using h))
variable (srt)
def zipT : List Smp → List Smp → Tr (List Smp)
  | s :: ss, t :: ts => (mergeT srt s t).bind fun u => (zipT ss ts).bind fun us => .ret (u :: us)
  | _, _ => .ret []
variable {srt}
theorem EP_zip : ∀ (φs ψs χs : List ((Smp → Rat) → Rat)) (F : List Smp → Rat), φs.length = ψs.length → φs.length = χs.length → (∀ φ ∈ φs, IsEv φ) → (∀ ψ ∈ ψs, IsEv ψ) →
    (∀ (i : Nat) φ ψ χ, φs[i]? = some φ → ψs[i]? = some ψ → χs[i]? = some χ → ∀ h, φ (fun s => ψ fun t => ev (mergeT srt s t) h) = χ h) →
    EP φs (fun ss => EP ψs fun ts => ev (zipT srt ss ts) F) = EP χs F
  | [], [], [], F, _, _, _, _, _ => rfl
  | [], _ :: _, _, F, h, _, _, _, _ => by simp at h
  | [], [], _ :: _, F, _, h, _, _, _ => by simp at h
  | _ :: _, [], _, F, h, _, _, _, _ => by simp at h
  | _ :: _, _ :: _, [], F, _, h, _, _, _ => by simp at h
  | φ :: φs, ψ :: ψs, χ :: χs, F, h1, h2, h3, h4, h5 => by
    have iφs := isEv_EP φs fun z hz => h3 z (List.mem_cons_of_mem _ hz)
    have iψ := h4 ψ List.mem_cons_self
    have iψs := isEv_EP ψs fun z hz => h4 z (List.mem_cons_of_mem _ hz)
    have e0 : EP (χ :: χs) F = χ fun u => EP χs fun us => F (u :: us) := rfl
    rw [e0, ← h5 0 φ ψ χ rfl rfl rfl]
    show φ (fun s => EP φs fun ss => ψ fun t => EP ψs fun ts => ev ((mergeT srt s t).bind fun u => (zipT srt ss ts).bind fun us => .ret (u :: us)) F) = _
    refine congrArg φ (funext fun s => ?_)
    rw [iφs.comm iψ fun ss t => EP ψs fun ts => ev ((mergeT srt s t).bind fun u => (zipT srt ss ts).bind fun us => .ret (u :: us)) F]
    refine congrArg ψ (funext fun t => ?_)
    have e1 : (fun ss => EP ψs fun ts => ev ((mergeT srt s t).bind fun u => (zipT srt ss ts).bind fun us => .ret (u :: us)) F) = fun ss => ev (mergeT srt s t) fun u => EP ψs fun ts => ev (zipT srt ss ts) fun us => F (u :: us) := funext fun ss => by
      have e2 : (fun ts => ev ((mergeT srt s t).bind fun u => (zipT srt ss ts).bind fun us => .ret (u :: us)) F) = fun ts => ev (mergeT srt s t) fun u => ev (zipT srt ss ts) fun us => F (u :: us) := funext fun ts => by
        rw [ev_bind]
        exact congrArg (ev _) (funext fun u => ev_bind _ _ _)
      rw [e2]
      exact iψs.comm (isEv_ev _) fun ts u => ev (zipT srt ss ts) fun us => F (u :: us)
    rw [e1, iφs.comm (isEv_ev (mergeT srt s t)) fun ss u => EP ψs fun ts => ev (zipT srt ss ts) fun us => F (u :: us)]
    refine congrArg (ev _) (funext fun u => ?_)
    exact EP_zip φs ψs χs (fun us => F (u :: us)) (by simpa using h1) (by simpa using h2) (fun z hz => h3 z (List.mem_cons_of_mem _ hz)) (fun z hz => h4 z (List.mem_cons_of_mem _ hz))
      fun i a b c ha hb hc => h5 (i + 1) a b c (by simpa using ha) (by simpa using hb) (by simpa using hc)
end
/-! ### the store -/
section
variable (srt : List Itm → List Itm) (gs : List Str) (rs : List Rule)
/-- the place of a group: behind the others' -/
def pix (g : Str) : Nat := gs.idxOf g
def ruleAt (i : Nat) : Rule := rs.getD i (true, 1)
def smpAt (ss : List Smp) (i : Nat) : Smp := ss.getD i ⟨true, 1, 0, []⟩
def putT (ss : List Smp) (x : Itm) : Tr (List Smp) := (mergeT srt (smpAt ss (pix gs x.grp)) (single (ruleAt rs (pix gs x.grp)) x)).bind fun s => .ret (ss.set (pix gs x.grp) s)
def putsT : List Smp → List Itm → Tr (List Smp)
  | ss, [] => .ret ss
  | ss, x :: xs => (putT srt gs rs ss x).bind fun ss' => putsT ss' xs
def empties : List Smp := rs.map empty_
def atPlace (A : List Itm) (i : Nat) : List Itm := A.filter fun x => pix gs x.grp == i
/-- the law of a store of the items A -/
def SL (A : List Itm) (F : List Smp → Rat) : Rat := EP ((List.range rs.length).map fun i => PS srt (ruleAt rs i) (atPlace gs A i)) F
variable {srt gs rs}
theorem SL_ev (A : List Itm) : ∀ φ ∈ (List.range rs.length).map (fun i => PS srt (ruleAt rs i) (atPlace gs A i)), IsEv φ := fun φ h => by
  obtain ⟨i, _, rfl⟩ := List.mem_map.mp h
  exact isEv_PS srt _ _
theorem pix_lt (hl : rs.length = gs.length + 1) (g : Str) : pix gs g < rs.length := by
  have : gs.idxOf g ≤ gs.length := List.idxOf_le_length
  unfold pix
  omega
theorem SL_put (S : SrtOk srt) (hl : rs.length = gs.length + 1) (hr : ∀ r ∈ rs, 1 ≤ r.2) (A : List Itm) (hA : ∀ x ∈ A, 0 < x.w) (x : Itm) (hx : 0 < x.w) (F : List Smp → Rat) : SL srt gs rs A (fun ss => ev (putT srt gs rs ss x) F) = SL srt gs rs (A ++ [x]) F := by
  have hp := pix_lt hl x.grp
  have hge : ((List.range rs.length).map fun i => PS srt (ruleAt rs i) (atPlace gs A i))[pix gs x.grp]? = some (PS srt (ruleAt rs (pix gs x.grp)) (atPlace gs A (pix gs x.grp))) := by
    rw [List.getElem?_map, List.getElem?_range hp]
    rfl
  have e1 : (fun ss => ev (putT srt gs rs ss x) F) = fun ss => ev (mergeT srt (ss.getD (pix gs x.grp) ⟨true, 1, 0, []⟩) (single (ruleAt rs (pix gs x.grp)) x)) fun s' => F (ss.set (pix gs x.grp) s') := funext fun ss => ev_bind _ _ _
  unfold SL
  rw [e1, EP_set (fun s => mergeT srt s (single (ruleAt rs (pix gs x.grp)) x)) ⟨true, 1, 0, []⟩ _ (pix gs x.grp) _ F (SL_ev A) hge]
  congr 1
  refine List.ext_getElem? fun i => ?_
  rw [List.getElem?_set, List.getElem?_map]
  by_cases hi : pix gs x.grp = i
  · rw [if_pos hi, if_pos (by rw [List.length_map, List.length_range]; exact hp), ← hi, List.getElem?_map, List.getElem?_range hp]
    refine congrArg some (funext fun h => ?_)
    dsimp only
    have e2 : atPlace gs (A ++ [x]) (pix gs x.grp) = atPlace gs A (pix gs x.grp) ++ [x] := by
      unfold atPlace
      rw [List.filter_append, List.filter_cons_of_pos (by simp)]
      rfl
    have hr1 : 1 ≤ (ruleAt rs (pix gs x.grp)).2 := by
      unfold ruleAt
      rw [List.getD_eq_getElem?_getD, List.getElem?_eq_getElem hp]
      exact hr _ (List.getElem_mem hp)
    have e3 := PS_merge S (ruleAt rs (pix gs x.grp)) (atPlace gs A (pix gs x.grp)) [x] (fun y hy => hA y (List.mem_filter.mp hy).1) (fun y hy => by rw [List.mem_singleton.mp hy]; exact hx) h
    rw [e2, ← e3]
    refine congrArg (PS srt _ _) (funext fun s => ?_)
    exact (PS_one S _ hr1 x hx fun t => ev (mergeT srt s t) h).symm
  · rw [if_neg hi, List.getElem?_map]
    have e2 : atPlace gs (A ++ [x]) i = atPlace gs A i := by
      unfold atPlace
      rw [List.filter_append, List.filter_cons_of_neg (by simpa using hi)]
      exact List.append_nil _
    cases hq : (List.range rs.length)[i]? with
    | none => rfl
    | some j =>
      have ej : j = i := by
        have := (List.getElem?_eq_some_iff.mp hq).2
        simpa using this.symm
      subst ej
      rw [Option.map_some, Option.map_some, e2]
theorem SL_puts (S : SrtOk srt) (hl : rs.length = gs.length + 1) (hr : ∀ r ∈ rs, 1 ≤ r.2) : ∀ (xs A : List Itm), (∀ x ∈ A, 0 < x.w) → (∀ x ∈ xs, 0 < x.w) → ∀ F, SL srt gs rs A (fun ss => ev (putsT srt gs rs ss xs) F) = SL srt gs rs (A ++ xs) F
  | [], A, _, _, F => by rw [List.append_nil]; rfl
  | x :: xs, A, hA, hx, F => by
    have e : (fun ss => ev (putsT srt gs rs ss (x :: xs)) F) = fun ss => ev (putT srt gs rs ss x) fun ss' => ev (putsT srt gs rs ss' xs) F := funext fun ss => ev_bind _ _ _
    have h1 := hx x List.mem_cons_self
    rw [e, SL_put S hl hr A hA x h1, SL_puts S hl hr xs (A ++ [x]) (fun y hy => (List.mem_append.mp hy).elim (hA y) fun z => by rw [List.mem_singleton.mp z]; exact h1) (fun y hy => hx y (List.mem_cons_of_mem _ hy)), List.append_assoc]
    rfl
theorem SL_nil (S : SrtOk srt) (F : List Smp → Rat) : SL srt gs rs [] F = F (empties rs) := by
  have h : ∀ (l : List Nat) (F : List Smp → Rat), EP (l.map fun i => PS srt (ruleAt rs i) (atPlace gs [] i)) F = F (l.map fun i => empty_ (ruleAt rs i)) := fun l => by
    induction l with
    | nil => exact fun _ => rfl
    | cons i l ih =>
      intro F
      show PS srt (ruleAt rs i) [] (fun s => EP (l.map _) fun ss => F (s :: ss)) = _
      rw [PS_nil S, ih]
      rfl
  unfold SL
  rw [h]
  congr 1
  unfold empties
  refine List.ext_getElem? fun i => ?_
  rw [List.getElem?_map, List.getElem?_map]
  by_cases hi : i < rs.length
  · rw [List.getElem?_range hi, List.getElem?_eq_getElem hi]
    unfold ruleAt
    rw [Option.map_some, List.getD_eq_getElem?_getD, List.getElem?_eq_getElem hi]
    rfl
  · rw [List.getElem?_eq_none_iff.mpr (by rw [List.length_range]; omega), List.getElem?_eq_none_iff.mpr (by omega)]
    rfl
theorem puts_law (S : SrtOk srt) (hl : rs.length = gs.length + 1) (hr : ∀ r ∈ rs, 1 ≤ r.2) (xs : List Itm) (hx : ∀ x ∈ xs, 0 < x.w) (F : List Smp → Rat) : ev (putsT srt gs rs (empties rs) xs) F = SL srt gs rs xs F := by
  have h := SL_puts S hl hr xs [] (fun _ h => nomatch h) hx F
  rw [SL_nil S] at h
  exact h
theorem SL_zip (S : SrtOk srt) (A B : List Itm) (hA : ∀ x ∈ A, 0 < x.w) (hB : ∀ x ∈ B, 0 < x.w) (F : List Smp → Rat) : SL srt gs rs A (fun ss => SL srt gs rs B fun ts => ev (zipT srt ss ts) F) = SL srt gs rs (A ++ B) F := by
  refine EP_zip _ _ _ F (by simp) (by simp) (SL_ev A) (SL_ev B) fun i φ ψ χ h1 h2 h3 h => ?_
  rw [List.getElem?_map] at h1 h2 h3
  cases hq : (List.range rs.length)[i]? with
  | none => rw [hq] at h1; cases h1
  | some j =>
    have ej : j = i := by
      have := (List.getElem?_eq_some_iff.mp hq).2
      simpa using this.symm
    subst ej
    rw [hq] at h1 h2 h3
    have e1 := Option.some.inj h1
    have e2 := Option.some.inj h2
    have e3 := Option.some.inj h3
    rw [← e1, ← e2, ← e3]
    dsimp only
    have e4 : atPlace gs (A ++ B) j = atPlace gs A j ++ atPlace gs B j := List.filter_append _ _
    rw [e4]
    exact PS_merge S _ _ _ (fun y hy => hA y (List.mem_filter.mp hy).1) (fun y hy => hB y (List.mem_filter.mp hy).1) h
theorem SL_perm {A B : List Itm} (h : A.Perm B) (F : List Smp → Rat) : SL srt gs rs A F = SL srt gs rs B F := by
  unfold SL
  congr 1
  refine List.map_congr_left fun i _ => funext fun f => ?_
  exact PS_perm _ (h.filter _) f
variable (srt gs rs)
/-- one store a list -/
def storesT : List (List Itm) → Tr (List (List Smp))
  | [] => .ret []
  | A :: r => (putsT srt gs rs (empties rs) A).bind fun ss => (storesT r).bind fun l => .ret (ss :: l)
def mergesT : List Smp → List (List Smp) → Tr (List Smp)
  | ss, [] => .ret ss
  | ss, ts :: r => (zipT srt ss ts).bind fun us => mergesT us r
abbrev Outcome := List (Int × List Str)
def outOf (ss : List Smp) : Outcome := ss.map fun s => (s.tot, s.kept.map (·.key))
def wholeT (ls : List (List Itm)) : Tr Outcome := (storesT srt gs rs ls).bind fun l => match l with
  | [] => .ret []
  | ss :: r => (mergesT srt ss r).bind fun us => .ret (outOf us)
variable {srt gs rs}
theorem whole_one (S : SrtOk srt) (hl : rs.length = gs.length + 1) (hr : ∀ r ∈ rs, 1 ≤ r.2) (A : List Itm) (hA : ∀ x ∈ A, 0 < x.w) (f : Outcome → Rat) : ev (wholeT srt gs rs [A]) f = SL srt gs rs A fun ss => f (outOf ss) := by
  rw [← puts_law S hl hr A hA]
  show ev (((putsT srt gs rs (empties rs) A).bind fun ss => .ret [ss]).bind _) f = _
  rw [Tr.bind_assoc, ev_bind]
  rfl
theorem whole_two (S : SrtOk srt) (hl : rs.length = gs.length + 1) (hr : ∀ r ∈ rs, 1 ≤ r.2) (A B : List Itm) (hA : ∀ x ∈ A, 0 < x.w) (hB : ∀ x ∈ B, 0 < x.w) (f : Outcome → Rat) : ev (wholeT srt gs rs [A, B]) f = SL srt gs rs (A ++ B) fun ss => f (outOf ss) := by
  rw [← SL_zip S A B hA hB, ← puts_law S hl hr A hA]
  show ev (((putsT srt gs rs (empties rs) A).bind fun ss => ((putsT srt gs rs (empties rs) B).bind fun ts => .ret [ts]).bind fun l => .ret (ss :: l)).bind _) f = _
  rw [Tr.bind_assoc, ev_bind]
  refine congrArg (ev _) (funext fun ss => ?_)
  rw [← puts_law S hl hr B hB, Tr.bind_assoc, Tr.bind_assoc, ev_bind]
  refine congrArg (ev _) (funext fun ts => ?_)
  show ev (((zipT srt ss ts).bind fun us => .ret us).bind fun us => .ret (outOf us)) f = _
  rw [Tr.bind_assoc, ev_bind]
  rfl
end
end Sam

set_option maxHeartbeats 4000000
namespace Sam
open PySem
def Subl (o L : List Itm) : Prop := ∃ r, (o ++ r).Perm L
theorem Subl.len {o L : List Itm} (h : Subl o L) : o.length ≤ L.length := by
  obtain ⟨r, h⟩ := h
  rw [← h.length_eq, List.length_append]
  omega
theorem Subl.mem {o L : List Itm} (h : Subl o L) {x : Itm} (hx : x ∈ o) : x ∈ L := by
  obtain ⟨r, h⟩ := h
  exact h.mem_iff.mp (List.mem_append_left _ hx)
theorem Subl.keys {o L : List Itm} (h : Subl o L) (hn : (L.map (·.key)).Nodup) : (o.map (·.key)).Nodup := by
  obtain ⟨r, h⟩ := h
  have q := (h.map (·.key)).nodup_iff.mpr hn
  rw [List.map_append] at q
  exact (List.nodup_append.mp q).1
theorem Subl.perm {o o' L L' : List Itm} (h : Subl o L) (h1 : o.Perm o') (h2 : L.Perm L') : Subl o' L' := by
  obtain ⟨r, h⟩ := h
  exact ⟨r, ((h1.symm.append_right r).trans h).trans h2⟩
theorem Subl.app {o o' L L' : List Itm} (h : Subl o L) (h' : Subl o' L') : Subl (o ++ o') (L ++ L') := by
  obtain ⟨r, h⟩ := h
  obtain ⟨r', h'⟩ := h'
  refine ⟨r ++ r', ?_⟩
  have e : (o ++ o' ++ (r ++ r')).Perm ((o ++ r) ++ (o' ++ r')) := by
    rw [List.append_assoc, List.append_assoc]
    refine List.Perm.append_left o ?_
    rw [← List.append_assoc, ← List.append_assoc]
    exact List.perm_append_comm.append_right r'
  exact e.trans (h.append h')
theorem Subl.trans {o L M : List Itm} (h : Subl o L) (h' : Subl L M) : Subl o M := by
  obtain ⟨r, h⟩ := h
  obtain ⟨r', h'⟩ := h'
  exact ⟨r ++ r', by rw [← List.append_assoc]; exact (h.append_right r').trans h'⟩
theorem Subl.cons {x : Itm} {o K L : List Itm} (h : Subl o (K ++ L)) : Subl (x :: o) ((x :: K) ++ L) := by
  obtain ⟨r, h⟩ := h
  exact ⟨r, h.cons x⟩
theorem Subl.cons2 {x : Itm} {o K L : List Itm} (h : Subl o (L ++ K)) : Subl (x :: o) (L ++ (x :: K)) := by
  obtain ⟨r, h⟩ := h
  exact ⟨r, (h.cons x).trans List.perm_middle.symm⟩
theorem Subl.nil (L : List Itm) : Subl [] L := ⟨L, List.Perm.refl _⟩
theorem Subl.refl (L : List Itm) : Subl L L := ⟨[], by rw [List.append_nil]⟩
/-- how many ways at most -/
def ff : Nat → Nat → Nat
  | 0, _ => 1
  | _ + 1, 0 => 1
  | m + 1, J + 1 => (J + 1) * ff m J
theorem ff_pos : ∀ m J, 1 ≤ ff m J
  | 0, _ => Nat.le_refl _
  | _ + 1, 0 => Nat.le_refl _
  | m + 1, J + 1 => Nat.mul_pos (Nat.succ_pos J) (ff_pos m J)
theorem ff_mono : ∀ {m m' : Nat} (J : Nat), m ≤ m' → ff m J ≤ ff m' J
  | 0, m', J, _ => ff_pos m' J
  | m + 1, 0, J, h => absurd h (Nat.not_succ_le_zero m)
  | m + 1, m' + 1, 0, _ => Nat.le_refl _
  | m + 1, m' + 1, J + 1, h => Nat.mul_le_mul_left _ (ff_mono J (Nat.le_of_succ_le_succ h))
theorem few_ret {α : Type} (a : α) : Few (Tr.ret a) 1 := Nat.le_refl 1
theorem Few.mono {α : Type} {t : Tr α} {c d : Nat} (h : Few t c) (hd : c ≤ d) : Few t d := Nat.le_trans h hd
theorem few_map {α β : Type} {t : Tr α} {c : Nat} (h : Few t c) (g : α → β) : Few (t.bind fun a => .ret (g a)) c := by
  unfold Few
  rw [leaves_bind]
  have e := len_flat_le (leaves t) (fun l => leaves (Tr.ret (g l.2))) 1 fun _ _ => Nat.le_refl 1
  unfold Few at h
  omega
theorem few_pair {α : Type} {a b : Int} {k : Nat → Tr α} {c d : Nat} (h0 : 0 < a → Few (k 0) c) (h1 : 0 < b → Few (k 1) d) : Few (.pick [a, b] k) ((if 0 < a then c else 0) + (if 0 < b then d else 0)) := by
  unfold Few
  show ((poss [a, b]).flatMap fun n => (leaves (k n)).map (pre1 n [a, b])).length ≤ _
  have e : poss [a, b] = (if 0 < a then [0] else []) ++ (if 0 < b then [1] else []) := by
    unfold poss
    have r : List.range ([a, b] : List Int).length = [0, 1] := (show List.range 2 = [0, 1] by decide)
    rw [r]
    by_cases ha : 0 < a
    · by_cases hb : 0 < b <;> simp [wAt, ha, hb]
    · by_cases hb : 0 < b <;> simp [wAt, ha, hb]
  rw [e, List.flatMap_append, List.length_append]
  refine Nat.add_le_add ?_ ?_
  · by_cases ha : 0 < a
    · rw [if_pos ha, if_pos ha, List.flatMap_singleton, List.length_map]
      exact h0 ha
    · rw [if_neg ha, if_neg ha]
      exact Nat.le_refl 0
  · by_cases hb : 0 < b
    · rw [if_pos hb, if_pos hb, List.flatMap_singleton, List.length_map]
      exact h1 hb
    · rw [if_neg hb, if_neg hb]
      exact Nat.le_refl 0
theorem few_ones {α : Type} {n : Nat} {k : Nat → Tr α} {c : Nat} (h : ∀ i, i < n → Few (k i) c) : Few (.pick (List.replicate n 1) k) (n * c) := by
  unfold Few
  show ((poss (List.replicate n 1)).flatMap fun i => (leaves (k i)).map (pre1 i (List.replicate n 1))).length ≤ _
  refine Nat.le_trans (len_flat_le _ _ c fun i hi => ?_) (Nat.mul_le_mul_right c ?_)
  · rw [List.length_map]
    have q := List.mem_range.mp (List.mem_filter.mp hi).1
    rw [List.length_replicate] at q
    exact h i q
  · have q := List.length_filter_le (fun m => decide (0 < wAt (List.replicate n 1) m)) (List.range (List.replicate n (1 : Int)).length)
    rw [List.length_range, List.length_replicate] at q
    unfold poss
    rw [List.length_replicate]
    exact q
theorem ws_pair {a b : Int} (ha : 0 ≤ a) (hb : 0 ≤ b) (h : 0 < a + b) (h4 : a + b ≤ 4000) : WsOk [a, b] where
  nn := fun w hw => by
    rcases List.mem_cons.mp hw with e | e
    · omega
    · have := List.mem_singleton.mp e
      omega
  pos := by
    by_cases h0 : 0 < a
    · exact ⟨a, by simp, h0⟩
    · exact ⟨b, by simp, by omega⟩
  len := (show 2 ≤ 100 by decide)
  sum := by
    show a + (b + 0) ≤ 40000
    omega
theorem ws_ones {n : Nat} (h : 1 ≤ n) (h2 : n ≤ 3) : WsOk (List.replicate n 1) where
  nn := fun w hw => by
    have := List.eq_of_mem_replicate hw
    omega
  pos := ⟨1, by rw [List.mem_replicate]; exact ⟨by omega, rfl⟩, by decide⟩
  len := by rw [List.length_replicate]; omega
  sum := by rw [sum_rep]; omega
theorem wAt0 (a b : Int) : wAt [a, b] 0 = a := rfl
theorem wAt1 (a b : Int) : wAt [a, b] 1 = b := rfl
theorem wAt2 (a b : Int) (n : Nat) : wAt [a, b] (n + 2) = 0 := rfl
theorem wAt_rep {n i : Nat} (h : 0 < wAt (List.replicate n 1) i) : i < n := by
  have := wAt_pos_lt h
  rw [List.length_replicate] at this
  exact this
/-! ### a side of a weighted merge -/
def sw (K : List Itm) : Int := (K.map fun x => x.w).sum
theorem sw_nn {K : List Itm} (h : ∀ x ∈ K, 0 < x.w) : 0 ≤ sw K := by
  by_cases e : K = []
  · subst e; exact Int.le_refl _
  · exact Int.le_of_lt (sum_pos' (fun x : Itm => x.w) e h)
structure SW (m c : Nat) (l : Int) (K : List Itm) : Prop where
  pos : ∀ x ∈ K, 0 < x.w
  or : (K.length = c ∧ l = sw K) ∨ (m ≤ K.length ∧ K.length < c ∧ sw K < l)
theorem SW.nn {m c : Nat} {l : Int} {K : List Itm} (h : SW m c l K) : 0 ≤ l := by
  have := sw_nn h.pos
  rcases h.or with ⟨_, e⟩ | ⟨_, _, e⟩ <;> omega
theorem SW.zero {m c : Nat} {l : Int} {K : List Itm} (h : SW m c l K) (h0 : ¬ 0 < l) : c = 0 := by
  have := sw_nn h.pos
  rcases h.or with ⟨a, e⟩ | ⟨_, _, e⟩
  · rw [← a]
    refine List.length_eq_zero_iff.mpr (Decidable.byContradiction fun z => ?_)
    have q := sum_pos' (fun x : Itm => x.w) z h.pos
    have : sw K = (K.map fun x => x.w).sum := rfl
    omega
  · omega
theorem SW.take {m c : Nat} {l : Int} {K : List Itm} (h : SW (m + 1) c l K) (h0 : 0 < l) : ∃ x K', K = x :: K' ∧ 1 ≤ c ∧ SW m (c - 1) (l - x.w) K' := by
  cases K with
  | nil =>
    rcases h.or with ⟨_, e⟩ | ⟨e, _⟩
    · rw [e] at h0
      exact absurd h0 (by decide)
    · simp at e
  | cons x K' =>
    have e : sw (x :: K') = x.w + sw K' := by unfold sw; rw [List.map_cons, List.sum_cons]
    refine ⟨x, K', rfl, ?_, fun y hy => h.pos y (List.mem_cons_of_mem _ hy), ?_⟩
    · rcases h.or with ⟨a, _⟩ | ⟨_, a, _⟩ <;> rw [List.length_cons] at a <;> omega
    · rcases h.or with ⟨a, b⟩ | ⟨a, b, d⟩
      · rw [List.length_cons] at a
        exact .inl ⟨by omega, by omega⟩
      · rw [List.length_cons] at a b
        exact .inr ⟨by omega, by omega, by omega⟩
theorem few_two {A B : Prop} [Decidable A] [Decidable B] {J c : Nat} (hJ : (if A then 1 else 0) + (if B then 1 else 0) ≤ J) : (if A then c else 0) + (if B then c else 0) ≤ J * c := by
  have e : (if A then c else 0) + (if B then c else 0) = ((if A then 1 else 0) + (if B then 1 else 0)) * c := by
    by_cases a : A <;> by_cases b : B <;> simp [a, b] <;> omega
  rw [e]
  exact Nat.mul_le_mul_right c hJ
/-- one draw from a side -/
def wStep (K : List Itm) (k : Itm → List Itm → Tr (List Itm)) : Tr (List Itm) := match K with
  | [] => .ret []
  | x :: K' => (k x K').bind fun o => .ret (x :: o)
def uStep (K : List Itm) (k : Itm → List Itm → Tr (List Itm)) : Tr (List Itm) := .pick (List.replicate K.length 1) fun i => match K[i]? with
  | none => .ret []
  | some x => (k x (K.eraseIdx i)).bind fun o => .ret (x :: o)
def two (a b : Tr (List Itm)) : Nat → Tr (List Itm)
  | 0 => a
  | _ + 1 => b
theorem mW_succ (wt : Itm → Int) (m : Nat) (l1 l2 : Int) (K1 K2 : List Itm) : mW wt (m + 1) l1 l2 K1 K2 = if 0 < l1 + l2 then .pick [l1, l2] (two (wStep K1 fun x K => mW wt m (l1 - wt x) l2 K K2) (wStep K2 fun x K => mW wt m l1 (l2 - wt x) K1 K)) else .ret [] := by
  show (if 0 < l1 + l2 then _ else _) = _
  congr 2
  funext s
  cases s with
  | zero => cases K1 <;> rfl
  | succ s => cases K2 <;> rfl
theorem mU_succ (m : Nat) (s1 s2 : Int) (K1 K2 : List Itm) : mU (m + 1) s1 s2 K1 K2 = .pick [s1, s2] (two (uStep K1 fun _ K => mU m (s1 - 1) s2 K K2) (uStep K2 fun _ K => mU m s1 (s2 - 1) K1 K)) := by
  show Tr.pick [s1, s2] _ = _
  congr 1
  funext s
  cases s with
  | zero =>
    show Tr.pick _ _ = Tr.pick _ _
    congr 1
    funext i
    cases K1[i]? <;> rfl
  | succ s =>
    show Tr.pick _ _ = Tr.pick _ _
    congr 1
    funext i
    cases K2[i]? <;> rfl
theorem good_uStep {R : List Itm → Prop} {K : List Itm} {k : Itm → List Itm → Tr (List Itm)} {b c : Nat} (h1 : 1 ≤ K.length) (h3 : K.length ≤ 3) (h : ∀ i x, K[i]? = some x → Good (fun o => R (x :: o)) (k x (K.eraseIdx i)) b ∧ Few (k x (K.eraseIdx i)) c) :
    Good R (uStep K k) (2 + b) ∧ Few (uStep K k) (K.length * c) := by
  have e : ∀ (i : Nat) (hi : i < K.length), (match K[i]? with
      | none => .ret []
      | some x => (k x (K.eraseIdx i)).bind fun o => .ret (x :: o)) = (k K[i] (K.eraseIdx i)).bind fun o => .ret (K[i] :: o) := fun i hi => by rw [List.getElem?_eq_getElem hi]
  refine ⟨⟨ws_ones h1 h3, 2, b, Nat.le_refl _, ?_, fun i hi => ?_⟩, few_ones fun i hi => ?_⟩
  · rw [sum_rep]
    show (K.length : Int) < 4
    omega
  · have hi' := wAt_rep hi
    show Good R (match K[i]? with | none => _ | some x => _) b
    rw [e i hi']
    exact Good.bind (b' := 0) (fun o ho => ho) (h i _ (List.getElem?_eq_getElem hi')).1
  · show Few (match K[i]? with | none => _ | some x => _) c
    rw [e i hi]
    exact few_map (h i _ (List.getElem?_eq_getElem hi)).2 _
theorem good_mW : ∀ (m c1 c2 : Nat) (l1 l2 : Int) (K1 K2 : List Itm), SW m c1 l1 K1 → SW m c2 l2 K2 → l1 + l2 ≤ 4000 →
    Good (fun o => Subl o (K1 ++ K2) ∧ o.length = min m (c1 + c2)) (mW (fun x : Itm => x.w) m l1 l2 K1 K2) (12 * m) ∧ Few (mW (fun x : Itm => x.w) m l1 l2 K1 K2) (ff m (K1.length + K2.length))
  | 0, c1, c2, l1, l2, K1, K2, _, _, _ => ⟨⟨Subl.nil _, by simp⟩, few_ret _⟩
  | m + 1, c1, c2, l1, l2, K1, K2, h1, h2, hl => by
    have n1 := h1.nn
    have n2 := h2.nn
    rw [mW_succ]
    by_cases hp : 0 < l1 + l2
    · rw [if_pos hp]
      have d1 : SW m c1 l1 K1 := ⟨h1.pos, h1.or.imp id fun ⟨a, b⟩ => ⟨by omega, b⟩⟩
      have d2 : SW m c2 l2 K2 := ⟨h2.pos, h2.or.imp id fun ⟨a, b⟩ => ⟨by omega, b⟩⟩
      have s0 : 0 < l1 → Good (fun o => Subl o (K1 ++ K2) ∧ o.length = min (m + 1) (c1 + c2)) (wStep K1 fun x K => mW (fun x : Itm => x.w) m (l1 - x.w) l2 K K2) (12 * m) ∧ Few (wStep K1 fun x K => mW (fun x : Itm => x.w) m (l1 - x.w) l2 K K2) (ff m (K1.length + K2.length - 1)) := fun h0 => by
        obtain ⟨x, K', rfl, hc, q⟩ := h1.take h0
        have hx := h1.pos x List.mem_cons_self
        obtain ⟨g, f⟩ := good_mW m (c1 - 1) c2 (l1 - x.w) l2 K' K2 q d2 (by omega)
        refine ⟨Good.bind (b' := 0) (fun o ho => ?_) g, ?_⟩
        · exact ⟨ho.1.cons, by rw [List.length_cons, ho.2]; omega⟩
        · have ee : (x :: K').length + K2.length - 1 = K'.length + K2.length := by rw [List.length_cons]; omega
          rw [ee]
          exact few_map f _
      have s1 : 0 < l2 → Good (fun o => Subl o (K1 ++ K2) ∧ o.length = min (m + 1) (c1 + c2)) (wStep K2 fun x K => mW (fun x : Itm => x.w) m l1 (l2 - x.w) K1 K) (12 * m) ∧ Few (wStep K2 fun x K => mW (fun x : Itm => x.w) m l1 (l2 - x.w) K1 K) (ff m (K1.length + K2.length - 1)) := fun h0 => by
        obtain ⟨x, K', rfl, hc, q⟩ := h2.take h0
        have hx := h2.pos x List.mem_cons_self
        obtain ⟨g, f⟩ := good_mW m c1 (c2 - 1) l1 (l2 - x.w) K1 K' d1 q (by omega)
        refine ⟨Good.bind (b' := 0) (fun o ho => ?_) g, ?_⟩
        · exact ⟨ho.1.cons2, by rw [List.length_cons, ho.2]; omega⟩
        · have ee : K1.length + (x :: K').length - 1 = K1.length + K'.length := by rw [List.length_cons]; omega
          rw [ee]
          exact few_map f _
      refine ⟨⟨ws_pair n1 n2 hp hl, 12, 12 * m, by omega, ?_, fun n hn => ?_⟩, ?_⟩
      · show l1 + (l2 + 0) < 4096
        omega
      · match n, hn with
        | 0, hn => exact (s0 hn).1
        | 1, hn => exact (s1 hn).1
        | n + 2, hn => exact absurd hn (by rw [wAt2]; decide)
      · refine (few_pair (fun h => (s0 h).2) fun h => (s1 h).2).mono ?_
        have hJ : 1 ≤ K1.length + K2.length := by
          by_cases h0 : 0 < l1
          · obtain ⟨x, K', rfl, _⟩ := h1.take h0
            rw [List.length_cons]
            omega
          · obtain ⟨x, K', rfl, _⟩ := h2.take (by omega)
            rw [List.length_cons]
            omega
        obtain ⟨J, eJ⟩ : ∃ J, K1.length + K2.length = J + 1 := ⟨K1.length + K2.length - 1, by omega⟩
        have hJ2 : (if 0 < l1 then 1 else 0) + (if 0 < l2 then 1 else 0) ≤ J + 1 := by
          by_cases h0 : 0 < l1
          · by_cases h3 : 0 < l2
            · obtain ⟨x, K', e1, _⟩ := h1.take h0
              obtain ⟨y, L', e2, _⟩ := h2.take h3
              rw [e1, e2, List.length_cons, List.length_cons] at eJ
              rw [if_pos h0, if_pos h3]
              omega
            · rw [if_pos h0, if_neg h3]
              omega
          · rw [if_neg h0]
            split <;> omega
        rw [eJ, Nat.add_sub_cancel]
        exact few_two hJ2
    · have z1 := h1.zero (by omega)
      have z2 := h2.zero (by omega)
      rw [if_neg hp]
      exact ⟨⟨Subl.nil _, by rw [z1, z2]; rfl⟩, (few_ret _).mono (ff_pos _ _)⟩
/-! ### a side of a uniform merge -/
def SU (m c : Nat) (K : List Itm) : Prop := K.length = c ∨ (m ≤ K.length ∧ K.length < c)
theorem perm_erase {K : List Itm} {i : Nat} {x : Itm} (h : K[i]? = some x) : (x :: K.eraseIdx i).Perm K := by
  induction K generalizing i with
  | nil => simp at h
  | cons y K ih =>
    cases i with
    | zero =>
      have e : y = x := by simpa using h
      subst e
      exact List.Perm.refl _
    | succ i => exact (List.Perm.swap y x _).trans ((ih (i := i) (by simpa using h)).cons y)
theorem good_mU : ∀ (m c1 c2 : Nat) (K1 K2 : List Itm), SU m c1 K1 → SU m c2 K2 → m ≤ c1 + c2 → c1 + c2 ≤ 7 → K1.length ≤ 3 → K2.length ≤ 3 →
    Good (fun o => Subl o (K1 ++ K2) ∧ o.length = m) (mU m c1 c2 K1 K2) (5 * m) ∧ Few (mU m c1 c2 K1 K2) (ff m (K1.length + K2.length))
  | 0, c1, c2, K1, K2, _, _, _, _, _, _ => ⟨⟨Subl.nil _, rfl⟩, few_ret _⟩
  | m + 1, c1, c2, K1, K2, h1, h2, hm, hc, k1, k2 => by
    rw [mU_succ]
    have s0 : 0 < c1 → Good (fun o => Subl o (K1 ++ K2) ∧ o.length = m + 1) (uStep K1 fun _ K => mU m ((c1 : Int) - 1) c2 K K2) (2 + 5 * m) ∧ Few (uStep K1 fun _ K => mU m ((c1 : Int) - 1) c2 K K2) (K1.length * ff m (K1.length + K2.length - 1)) := fun h0 => by
      have hK : 1 ≤ K1.length := by rcases h1 with e | ⟨e, _⟩ <;> omega
      have ec : (c1 : Int) - 1 = ((c1 - 1 : Nat) : Int) := by omega
      refine good_uStep hK k1 fun i x hx => ?_
      have hi := (List.getElem?_eq_some_iff.mp hx).1
      have hl : (K1.eraseIdx i).length = K1.length - 1 := List.length_eraseIdx_of_lt hi
      rw [ec]
      have z := good_mU m (c1 - 1) c2 (K1.eraseIdx i) K2 (by unfold SU at *; omega) (by unfold SU at *; omega) (by omega) (by omega) (by omega) k2
      rw [hl, show K1.length - 1 + K2.length = K1.length + K2.length - 1 by omega] at z
      exact ⟨z.1.imp fun o ho => ⟨(Subl.cons (x := x) ho.1).perm (List.Perm.refl _) ((perm_erase hx).append_right K2), by rw [List.length_cons, ho.2]⟩, z.2⟩
    have s1 : 0 < c2 → Good (fun o => Subl o (K1 ++ K2) ∧ o.length = m + 1) (uStep K2 fun _ K => mU m c1 ((c2 : Int) - 1) K1 K) (2 + 5 * m) ∧ Few (uStep K2 fun _ K => mU m c1 ((c2 : Int) - 1) K1 K) (K2.length * ff m (K1.length + K2.length - 1)) := fun h0 => by
      have hK : 1 ≤ K2.length := by rcases h2 with e | ⟨e, _⟩ <;> omega
      have ec : (c2 : Int) - 1 = ((c2 - 1 : Nat) : Int) := by omega
      refine good_uStep hK k2 fun i x hx => ?_
      have hi := (List.getElem?_eq_some_iff.mp hx).1
      have hl : (K2.eraseIdx i).length = K2.length - 1 := List.length_eraseIdx_of_lt hi
      rw [ec]
      have z := good_mU m c1 (c2 - 1) K1 (K2.eraseIdx i) (by unfold SU at *; omega) (by unfold SU at *; omega) (by omega) (by omega) k1 (by omega)
      rw [hl, show K1.length + (K2.length - 1) = K1.length + K2.length - 1 by omega] at z
      exact ⟨z.1.imp fun o ho => ⟨(Subl.cons2 (x := x) ho.1).perm (List.Perm.refl _) ((perm_erase hx).append_left K1), by rw [List.length_cons, ho.2]⟩, z.2⟩
    have n1 : (0 : Int) < c1 → 0 < c1 := fun h => by omega
    have n2 : (0 : Int) < c2 → 0 < c2 := fun h => by omega
    refine ⟨⟨ws_pair (by omega) (by omega) (by omega) (by omega), 3, 2 + 5 * m, by omega, ?_, fun n hn => ?_⟩, ?_⟩
    · show (c1 : Int) + (c2 + 0) < 8
      omega
    · match n, hn with
      | 0, hn => exact (s0 (n1 hn)).1
      | 1, hn => exact (s1 (n2 hn)).1
      | n + 2, hn => exact absurd hn (by rw [wAt2]; decide)
    · refine (few_pair (fun h => (s0 (n1 h)).2) fun h => (s1 (n2 h)).2).mono ?_
      have hJ : 1 ≤ K1.length + K2.length := by
        unfold SU at h1 h2
        omega
      obtain ⟨J, eJ⟩ : ∃ J, K1.length + K2.length = J + 1 := ⟨K1.length + K2.length - 1, by omega⟩
      have e2 : ff (m + 1) (K1.length + K2.length) = (K1.length + K2.length) * ff m (K1.length + K2.length - 1) := by rw [eJ]; rfl
      rw [e2, Nat.add_mul]
      refine Nat.add_le_add ?_ ?_ <;> split <;> omega
end Sam

set_option maxHeartbeats 4000000
namespace Sam
open PySem
/-- an item as the law makes it -/
def ItOk (x : Itm) : Prop := 0 < x.w ∧ x.w ≤ 1000
/-- a sample of the items A under the rule r -/
structure SOk (r : Rule) (A : List Itm) (s : Smp) : Prop where
  un : s.un = r.1
  size : s.size = r.2
  sub : Subl s.kept A
  len : s.kept.length = min r.2 A.length
  tot : s.tot = (A.map (wtOf r.1)).sum
theorem sok_empty (r : Rule) : SOk r [] (empty_ r) := ⟨rfl, rfl, Subl.nil _, (Nat.min_zero _).symm, rfl⟩
theorem sok_single (r : Rule) (hr : 1 ≤ r.2) (x : Itm) : SOk r [x] (single r x) := ⟨rfl, rfl, Subl.refl _, (Nat.min_eq_right hr).symm, by
  show wtOf r.1 x = wtOf r.1 x + 0
  rw [Int.add_zero]⟩
theorem sum_le (un : Bool) : ∀ {A : List Itm}, (∀ x ∈ A, ItOk x) → (A.map (wtOf un)).sum ≤ 1000 * (A.length : Int) ∧ 0 ≤ (A.map (wtOf un)).sum
  | [], _ => ⟨Int.le_refl _, Int.le_refl _⟩
  | x :: A, h => by
    have h1 := h x List.mem_cons_self
    have h2 := sum_le un fun y hy => h y (List.mem_cons_of_mem x hy)
    rw [List.map_cons, List.sum_cons, List.length_cons]
    unfold ItOk at h1
    cases un with
    | true => exact ⟨by show (1 : Int) + _ ≤ _; omega, by show 0 ≤ (1 : Int) + _; omega⟩
    | false => exact ⟨by show x.w + _ ≤ _; omega, by show 0 ≤ x.w + _; omega⟩
theorem sw_perm {A B : List Itm} (h : A.Perm B) : sw A = sw B := perm_sum (h.map _)
theorem sw_app (A B : List Itm) : sw (A ++ B) = sw A + sw B := by unfold sw; rw [List.map_append, List.sum_append]
theorem SOk.sw {r : Rule} {A : List Itm} {s : Smp} (h : SOk r A s) (hA : ∀ x ∈ A, ItOk x) (hu : r.1 = false) : SW r.2 A.length s.tot s.kept := by
  obtain ⟨q, hq⟩ := h.sub
  have hl := h.len
  have hql := hq.length_eq
  rw [List.length_append] at hql
  have ht : s.tot = Sam.sw A := by rw [h.tot, hu]; rfl
  have hs : Sam.sw s.kept + Sam.sw q = Sam.sw A := by rw [← sw_app, sw_perm hq]
  refine ⟨fun x hx => (hA x (h.sub.mem hx)).1, ?_⟩
  by_cases e : A.length ≤ r.2
  · have q0 : q = [] := List.eq_nil_of_length_eq_zero (by omega)
    subst q0
    refine .inl ⟨by omega, ?_⟩
    have : Sam.sw ([] : List Itm) = 0 := rfl
    omega
  · refine .inr ⟨by omega, by omega, ?_⟩
    have q0 : q ≠ [] := fun z => by subst z; simp at hql; omega
    have := sum_pos' (fun x : Itm => x.w) q0 fun x hx => (hA x (hq.mem_iff.mp (List.mem_append_right _ hx))).1
    have e2 : Sam.sw q = (q.map fun x => x.w).sum := rfl
    omega
section
variable {srt : List Itm → List Itm}
theorem good_mergeT (S : SrtOk srt) {r : Rule} (hr2 : r.2 ≤ 2) {A B : List Itm} {s t : Smp} (hs : SOk r A s) (ht : SOk r B t) (hA : ∀ x ∈ A, ItOk x) (hB : ∀ x ∈ B, ItOk x) (hl : A.length + B.length ≤ 4) :
    Good (SOk r (A ++ B)) (mergeT srt s t) 24 ∧ Few (mergeT srt s t) (ff r.2 (s.kept.length + t.kept.length)) := by
  obtain ⟨un, k⟩ := r
  have e1 : s.un = un := hs.un
  have sz : s.size = k := hs.size
  have hk : k ≤ 2 := hr2
  have hsum : ((A ++ B).map (wtOf un)).sum = (A.map (wtOf un)).sum + (B.map (wtOf un)).sum := by rw [List.map_append, List.sum_append]
  have tA : s.tot = (A.map (wtOf un)).sum := hs.tot
  have tB : t.tot = (B.map (wtOf un)).sum := ht.tot
  have lA : s.kept.length = min k A.length := hs.len
  have lB : t.kept.length = min k B.length := ht.len
  unfold mergeT
  rw [e1, sz]
  cases un with
  | true =>
    rw [sum_one] at tA tB
    have em : (s.tot + t.tot).toNat = A.length + B.length := by omega
    rw [em, tA, tB]
    rw [cond_true]
    obtain ⟨g, f⟩ := good_mU (min k (A.length + B.length)) A.length B.length s.kept t.kept (by unfold SU; omega) (by unfold SU; omega) (by omega) (by omega) (by omega) (by omega)
    refine ⟨(Good.bind (b' := 0) (fun o ho => ?_) g).mono (by omega), ?_⟩
    · refine ⟨rfl, rfl, ?_, ?_, ?_⟩
      · exact (ho.1.trans (hs.sub.app ht.sub)).perm (S.perm o).symm (List.Perm.refl _)
      · show (srt o).length = _
        rw [(S.perm o).length_eq, ho.2, List.length_append]
      · show (A.length : Int) + B.length = _
        rw [sum_one, List.length_append, Int.natCast_add]
    · exact (few_map f _).mono (ff_mono _ (Nat.min_le_left _ _))
  | false =>
    have z1 := (sum_le false hA).1
    have z2 := (sum_le false hB).1
    rw [cond_false]
    obtain ⟨g, f⟩ := good_mW k A.length B.length s.tot t.tot s.kept t.kept (hs.sw hA rfl) (ht.sw hB rfl) (by omega)
    refine ⟨(Good.bind (b' := 0) (fun o ho => ?_) g).mono (by omega), few_map f _⟩
    refine ⟨rfl, rfl, ho.1.trans (hs.sub.app ht.sub), ?_, ?_⟩
    · show o.length = _
      rw [ho.2, List.length_append]
    · show s.tot + t.tot = _
      rw [hsum, tA, tB]
/-! ### all places -/
def SOks : List Rule → List (List Itm) → List Smp → Prop
  | [], [], [] => True
  | r :: rs, A :: As, s :: ss => SOk r A s ∧ SOks rs As ss
  | _, _, _ => False
theorem SOks.len : ∀ {rs : List Rule} {As : List (List Itm)} {ss : List Smp}, SOks rs As ss → rs.length = As.length ∧ rs.length = ss.length
  | [], [], [], _ => ⟨rfl, rfl⟩
  | r :: rs, A :: As, s :: ss, h => by
    obtain ⟨a, b⟩ := SOks.len h.2
    exact ⟨congrArg (· + 1) a, congrArg (· + 1) b⟩
  | [], _ :: _, _, h => by cases h
  | [], [], _ :: _, h => by cases h
  | _ :: _, [], _, h => by cases h
  | _ :: _, _ :: _, [], h => by cases h
theorem SOks.get : ∀ {rs : List Rule} {As : List (List Itm)} {ss : List Smp}, SOks rs As ss → ∀ {i : Nat} {r : Rule} {A : List Itm} {s : Smp}, rs[i]? = some r → As[i]? = some A → ss[i]? = some s → SOk r A s
  | r :: rs, A :: As, s :: ss, h, 0, _, _, _, e1, e2, e3 => by
    simp at e1 e2 e3
    subst e1 e2 e3
    exact h.1
  | r :: rs, A :: As, s :: ss, h, i + 1, _, _, _, e1, e2, e3 => SOks.get h.2 (i := i) (by simpa using e1) (by simpa using e2) (by simpa using e3)
  | [], _, _, _, i, _, _, _, e1, _, _ => by simp at e1
  | _ :: _, [], _, _, i, _, _, _, _, e2, _ => by simp at e2
  | _ :: _, _ :: _, [], _, i, _, _, _, _, _, e3 => by simp at e3
theorem SOks.set : ∀ {rs : List Rule} {As : List (List Itm)} {ss : List Smp}, SOks rs As ss → ∀ {i : Nat} {r : Rule} {A : List Itm} {s : Smp}, rs[i]? = some r → SOk r A s → SOks rs (As.set i A) (ss.set i s)
  | r :: rs, A :: As, s :: ss, h, 0, _, _, _, e1, q => by
    simp at e1
    subst e1
    exact ⟨q, h.2⟩
  | r :: rs, A :: As, s :: ss, h, i + 1, _, _, _, e1, q => ⟨h.1, SOks.set h.2 (i := i) (by simpa using e1) q⟩
  | [], _, _, _, i, _, _, _, e1, _ => by simp at e1
  | _ :: _, [], _, h, _, _, _, _, _, _ => by cases h
  | _ :: _, _ :: _, [], h, _, _, _, _, _, _ => by cases h
/-- how many are kept in all -/
def tk (ss : List Smp) : Nat := (ss.map fun s => s.kept.length).sum
def zipA : List (List Itm) → List (List Itm) → List (List Itm)
  | A :: As, B :: Bs => (A ++ B) :: zipA As Bs
  | _, _ => []
def lens (As : List (List Itm)) : Nat := (As.map List.length).sum
theorem ff2 {k J : Nat} (hk : k ≤ 2) (hJ : J ≤ 4) : ff k J ≤ 2 ^ J := by
  refine Nat.le_trans (ff_mono J hk) ?_
  match J, hJ with
  | 0, _ => decide
  | 1, _ => decide
  | 2, _ => decide
  | 3, _ => decide
  | 4, _ => decide
theorem good_zip (S : SrtOk srt) : ∀ (rs : List Rule) (As Bs : List (List Itm)) (ss ts : List Smp), (∀ r ∈ rs, r.2 ≤ 2) → SOks rs As ss → SOks rs Bs ts → (∀ A ∈ As, ∀ x ∈ A, ItOk x) → (∀ B ∈ Bs, ∀ x ∈ B, ItOk x) → lens As + lens Bs ≤ 4 →
    Good (SOks rs (zipA As Bs)) (zipT srt ss ts) (24 * rs.length) ∧ Few (zipT srt ss ts) (2 ^ (lens As + lens Bs))
  | [], [], [], [], [], _, _, _, _, _, _ => ⟨trivial, few_ret _⟩
  | r :: rs, A :: As, B :: Bs, s :: ss, t :: ts, hr, h1, h2, hA, hB, hl => by
    have eA : lens (A :: As) = A.length + lens As := by unfold lens; rw [List.map_cons, List.sum_cons]
    have eB : lens (B :: Bs) = B.length + lens Bs := by unfold lens; rw [List.map_cons, List.sum_cons]
    rw [eA, eB] at hl
    have hk := hr r List.mem_cons_self
    obtain ⟨g, f⟩ := good_mergeT S hk h1.1 h2.1 (hA A List.mem_cons_self) (hB B List.mem_cons_self) (by omega)
    obtain ⟨g2, f2⟩ := good_zip S rs As Bs ss ts (fun q hq => hr q (List.mem_cons_of_mem _ hq)) h1.2 h2.2 (fun q hq => hA q (List.mem_cons_of_mem _ hq)) (fun q hq => hB q (List.mem_cons_of_mem _ hq)) (by omega)
    refine ⟨?_, ?_⟩
    · have z := Good.bind (S := SOks (r :: rs) (zipA (A :: As) (B :: Bs))) (b' := 24 * rs.length) (f := fun u => (zipT srt ss ts).bind fun us => .ret (u :: us)) (fun u hu => (Good.bind (b' := 0) (f := fun us => .ret (u :: us)) (S := SOks (r :: rs) (zipA (A :: As) (B :: Bs))) (fun us hus => (⟨hu, hus⟩ : SOk r (A ++ B) u ∧ SOks rs (zipA As Bs) us)) g2)) g
      refine z.mono ?_
      rw [List.length_cons]
      omega
    · have z := Few.bind (f := fun u => (zipT srt ss ts).bind fun us => .ret (u :: us)) g f (fun u _ => few_map f2 fun us => u :: us)
      refine z.mono ?_
      have l1 := h1.1.sub.len
      have l2 := h2.1.sub.len
      have q := ff2 hk (J := s.kept.length + t.kept.length) (by omega)
      have q2 : 2 ^ (s.kept.length + t.kept.length) ≤ 2 ^ (A.length + B.length) := Nat.pow_le_pow_right (by decide) (by omega)
      rw [eA, eB, show A.length + lens As + (B.length + lens Bs) = (A.length + B.length) + (lens As + lens Bs) by omega, Nat.pow_add 2 (A.length + B.length)]
      exact Nat.mul_le_mul_right _ (Nat.le_trans q q2)
  | [], _ :: _, _, _, _, _, h, _, _, _, _ => by cases h
  | [], [], _ :: _, _, _, _, _, h, _, _, _ => by cases h
  | [], [], [], _ :: _, _, _, h, _, _, _, _ => by cases h
  | [], [], [], [], _ :: _, _, _, h, _, _, _ => by cases h
  | _ :: _, [], _, _, _, _, h, _, _, _, _ => by cases h
  | _ :: _, _ :: _, [], _, _, _, _, h, _, _, _ => by cases h
  | _ :: _, _ :: _, _ :: _, [], _, _, h, _, _, _, _ => by cases h
  | _ :: _, _ :: _, _ :: _, _ :: _, [], _, _, h, _, _, _ => by cases h
end
/-! ### stores -/
section
variable {srt : List Itm → List Itm} {gs : List Str} {rs : List Rule}
/-- the items by places -/
def byPl (gs : List Str) (n : Nat) (A : List Itm) : List (List Itm) := (List.range n).map (atPlace gs A)
/-- a store of the items A -/
def StOk (gs : List Str) (rs : List Rule) (A : List Itm) (ss : List Smp) : Prop := SOks rs (byPl gs rs.length A) ss
structure RsOk (gs : List Str) (rs : List Rule) : Prop where
  len : rs.length = gs.length + 1
  le3 : rs.length ≤ 3
  lo : ∀ r ∈ rs, 1 ≤ r.2
  hi : ∀ r ∈ rs, r.2 ≤ 2
theorem byPl_get {n i : Nat} (h : i < n) (A : List Itm) : (byPl gs n A)[i]? = some (atPlace gs A i) := by
  unfold byPl
  rw [List.getElem?_map, List.getElem?_range h]
  rfl
theorem byPl_set (n : Nat) (A : List Itm) (x : Itm) : (byPl gs n A).set (pix gs x.grp) (atPlace gs A (pix gs x.grp) ++ [x]) = byPl gs n (A ++ [x]) := by
  refine List.ext_getElem? fun i => ?_
  rw [List.getElem?_set]
  by_cases hn : i < n
  · rw [byPl_get hn, byPl_get hn]
    by_cases hi : pix gs x.grp = i
    · rw [if_pos hi, if_pos (by unfold byPl; rw [List.length_map, List.length_range, hi]; exact hn), hi]
      congr 1
      unfold atPlace
      rw [List.filter_append, List.filter_cons_of_pos (by simpa using hi)]
      rfl
    · rw [if_neg hi]
      congr 1
      unfold atPlace
      rw [List.filter_append, List.filter_cons_of_neg (by simpa using hi)]
      exact (List.append_nil _).symm
  · have e : ∀ B, (byPl gs n B)[i]? = none := fun B => List.getElem?_eq_none_iff.mpr (by unfold byPl; rw [List.length_map, List.length_range]; omega)
    rw [e, e]
    by_cases hi : pix gs x.grp = i
    · rw [if_pos hi, if_neg (by unfold byPl; rw [List.length_map, List.length_range, hi]; exact hn)]
    · rw [if_neg hi]
theorem lens_byPl (n : Nat) : ∀ A : List Itm, lens (byPl gs n A) ≤ A.length := fun A => by
  have h : ∀ (l : List Nat), l.Nodup → ∀ A : List Itm, ((l.map fun i => (atPlace gs A i).length)).sum ≤ A.length := fun l hl A => by
    induction A with
    | nil =>
      have e : (l.map fun i => (atPlace gs [] i).length) = l.map fun _ => 0 := rfl
      rw [e]
      clear e hl
      induction l with
      | nil => exact Nat.le_refl _
      | cons i l ih => rw [List.map_cons, List.sum_cons]; omega
    | cons x A ih =>
      have e : (l.map fun i => (atPlace gs (x :: A) i).length).sum = (l.map fun i => (atPlace gs A i).length).sum + (l.filter fun i => pix gs x.grp == i).length := by
        clear hl ih
        induction l with
        | nil => rfl
        | cons i l ih =>
          rw [List.map_cons, List.sum_cons, List.map_cons, List.sum_cons, ih]
          by_cases hi : pix gs x.grp = i
          · rw [List.filter_cons_of_pos (by simpa using hi)]
            unfold atPlace
            rw [List.filter_cons_of_pos (by simpa using hi), List.length_cons, List.length_cons]
            omega
          · rw [List.filter_cons_of_neg (by simpa using hi)]
            unfold atPlace
            rw [List.filter_cons_of_neg (by simpa using hi)]
            omega
      have e2 : (l.filter fun i => pix gs x.grp == i).length ≤ 1 := by
        have hn := hl.filter fun i => pix gs x.grp == i
        have hm : ∀ y ∈ l.filter (fun i => pix gs x.grp == i), y = pix gs x.grp := fun y hy => by
          have := (List.mem_filter.mp hy).2
          simpa using (beq_iff_eq.mp this).symm
        match hq : l.filter fun i => pix gs x.grp == i with
        | [] => exact Nat.zero_le _
        | [_] => exact Nat.le_refl _
        | a :: b :: r =>
          rw [hq] at hn hm
          have e3 := hm a (by simp)
          have e4 := hm b (by simp)
          rw [e3, e4] at hn
          simp at hn
      rw [e, List.length_cons]
      omega
  have z := h (List.range n) List.nodup_range A
  unfold lens byPl
  rw [List.map_map]
  exact z
theorem atPlace_ok {A : List Itm} (h : ∀ x ∈ A, ItOk x) (i : Nat) : ∀ x ∈ atPlace gs A i, ItOk x := fun x hx => h x (List.mem_filter.mp hx).1
theorem byPl_ok {A : List Itm} (h : ∀ x ∈ A, ItOk x) (n : Nat) : ∀ B ∈ byPl gs n A, ∀ x ∈ B, ItOk x := fun B hB => by
  obtain ⟨i, _, rfl⟩ := List.mem_map.mp hB
  exact atPlace_ok h i
theorem stok_empty : StOk gs rs [] (empties rs) := by
  have h : ∀ (n : Nat) (l : List Nat), rs.length = l.length → SOks rs (l.map (atPlace gs [])) (rs.map empty_) := fun _ => by
    induction rs with
    | nil =>
      intro l hl
      have e : l = [] := List.eq_nil_of_length_eq_zero hl.symm
      subst e
      trivial
    | cons r rs ih =>
      intro l hl
      cases l with
      | nil => cases hl
      | cons i l => exact ⟨sok_empty r, ih l (by simpa using hl)⟩
  exact h 0 (List.range rs.length) (by simp)
theorem rule_get (R : RsOk gs rs) (g : Str) : rs[pix gs g]? = some (ruleAt rs (pix gs g)) ∧ 1 ≤ (ruleAt rs (pix gs g)).2 ∧ (ruleAt rs (pix gs g)).2 ≤ 2 := by
  have hp := pix_lt R.len g
  have e : ruleAt rs (pix gs g) = rs[pix gs g] := by
    unfold ruleAt
    rw [List.getD_eq_getElem?_getD, List.getElem?_eq_getElem hp]
    rfl
  rw [e]
  exact ⟨List.getElem?_eq_getElem hp, R.lo _ (List.getElem_mem hp), R.hi _ (List.getElem_mem hp)⟩
theorem smp_get {A : List Itm} {ss : List Smp} (R : RsOk gs rs) (h : StOk gs rs A ss) (g : Str) : ss[pix gs g]? = some (smpAt ss (pix gs g)) ∧ SOk (ruleAt rs (pix gs g)) (atPlace gs A (pix gs g)) (smpAt ss (pix gs g)) := by
  have hp := pix_lt R.len g
  have hl : pix gs g < ss.length := by
    have := h.len.2
    omega
  have e : ss[pix gs g]? = some (smpAt ss (pix gs g)) := by
    unfold smpAt
    rw [List.getD_eq_getElem?_getD, List.getElem?_eq_getElem hl]
    rfl
  exact ⟨e, h.get (rule_get R g).1 (byPl_get hp A) e⟩
theorem good_put (S : SrtOk srt) (R : RsOk gs rs) {A : List Itm} {ss : List Smp} (h : StOk gs rs A ss) (hA : ∀ x ∈ A, ItOk x) (hl : A.length ≤ 3) (x : Itm) (hx : ItOk x) :
    Good (StOk gs rs (A ++ [x])) (putT srt gs rs ss x) 24 ∧ Few (putT srt gs rs ss x) 6 ∧ (A = [] → Few (putT srt gs rs ss x) 1) := by
  obtain ⟨h1, h2, h3⟩ := rule_get R x.grp
  obtain ⟨h4, h5⟩ := smp_get R h x.grp
  have hal : (atPlace gs A (pix gs x.grp)).length ≤ A.length := List.length_filter_le _ _
  obtain ⟨g, f⟩ := good_mergeT S h3 h5 (sok_single _ h2 x) (atPlace_ok hA _) (fun y hy => by rw [List.mem_singleton.mp hy]; exact hx) (by rw [List.length_singleton]; omega)
  have hk : (smpAt ss (pix gs x.grp)).kept.length ≤ 2 := by rw [h5.len]; omega
  refine ⟨?_, ?_, fun e => ?_⟩
  · refine (Good.bind (b' := 0) (fun s hs => ?_) g)
    have z := SOks.set h (i := pix gs x.grp) h1 hs
    rw [byPl_set] at z
    exact z
  · refine (few_map f _).mono ?_
    refine Nat.le_trans (ff_mono _ h3) ?_
    show ff 2 ((smpAt ss (pix gs x.grp)).kept.length + 1) ≤ 6
    match (smpAt ss (pix gs x.grp)).kept.length, hk with
    | 0, _ => decide
    | 1, _ => decide
    | 2, _ => decide
  · refine (few_map f _).mono ?_
    subst e
    have e0 : (smpAt ss (pix gs x.grp)).kept.length = 0 := by rw [h5.len]; simp [atPlace]
    rw [e0]
    refine Nat.le_trans (ff_mono _ h3) ?_
    show ff 2 1 ≤ 1
    decide
theorem good_puts (S : SrtOk srt) (R : RsOk gs rs) : ∀ (xs A : List Itm) (ss : List Smp), StOk gs rs A ss → (∀ x ∈ A, ItOk x) → (∀ x ∈ xs, ItOk x) → A.length + xs.length ≤ 4 →
    Good (StOk gs rs (A ++ xs)) (putsT srt gs rs ss xs) (24 * xs.length) ∧ Few (putsT srt gs rs ss xs) (6 ^ xs.length)
  | [], A, ss, h, _, _, _ => ⟨by rw [List.append_nil]; exact h, few_ret _⟩
  | x :: xs, A, ss, h, hA, hx, hl => by
    rw [List.length_cons] at hl
    have hx1 := hx x List.mem_cons_self
    obtain ⟨g, f, _⟩ := good_put S R h hA (by omega) x hx1
    have rec_ : ∀ ss', StOk gs rs (A ++ [x]) ss' → Good (StOk gs rs (A ++ x :: xs)) (putsT srt gs rs ss' xs) (24 * xs.length) ∧ Few (putsT srt gs rs ss' xs) (6 ^ xs.length) := fun ss' h' => by
      have z := good_puts S R xs (A ++ [x]) ss' h' (fun y hy => (List.mem_append.mp hy).elim (hA y) fun q => by rw [List.mem_singleton.mp q]; exact hx1) (fun y hy => hx y (List.mem_cons_of_mem _ hy)) (by rw [List.length_append, List.length_singleton]; omega)
      rw [List.append_assoc] at z
      exact z
    refine ⟨?_, ?_⟩
    · refine (Good.bind (b' := 24 * xs.length) (fun ss' h' => (rec_ ss' h').1) g).mono ?_
      rw [List.length_cons]
      omega
    · refine (Few.bind g f fun ss' h' => (rec_ ss' h').2).mono ?_
      rw [List.length_cons, Nat.pow_succ, Nat.mul_comm]
      exact Nat.le_refl _
/-- .. the first put has one way -/
theorem good_puts0 (S : SrtOk srt) (R : RsOk gs rs) (xs : List Itm) (hx : ∀ x ∈ xs, ItOk x) (hl : xs.length ≤ 4) :
    Good (StOk gs rs xs) (putsT srt gs rs (empties rs) xs) (24 * xs.length) ∧ Few (putsT srt gs rs (empties rs) xs) (6 ^ (xs.length - 1)) := by
  refine ⟨(good_puts S R xs [] (empties rs) stok_empty (fun _ h => nomatch h) hx (by simpa using hl)).1, ?_⟩
  cases xs with
  | nil => exact few_ret _
  | cons x xs =>
    rw [List.length_cons] at hl
    have hx1 := hx x List.mem_cons_self
    obtain ⟨g, _, f⟩ := good_put S R stok_empty (fun _ h => nomatch h) (Nat.zero_le _) x hx1
    refine (Few.bind g (f rfl) fun ss' h' => (good_puts S R xs ([] ++ [x]) ss' h' (fun y hy => by rw [List.mem_singleton.mp hy]; exact hx1) (fun y hy => hx y (List.mem_cons_of_mem _ hy)) (by rw [List.nil_append, List.length_singleton]; omega)).2).mono ?_
    rw [Nat.one_mul, List.length_cons, Nat.add_sub_cancel]
    exact Nat.le_refl _
theorem zipA_byPl (n : Nat) (A B : List Itm) : zipA (byPl gs n A) (byPl gs n B) = byPl gs n (A ++ B) := by
  unfold byPl
  generalize List.range n = l
  induction l with
  | nil => rfl
  | cons i l ih =>
    rw [List.map_cons, List.map_cons, List.map_cons, zipA, ih]
    congr 1
    exact (List.filter_append _ _).symm
theorem good_zip' (S : SrtOk srt) (R : RsOk gs rs) {A B : List Itm} {ss ts : List Smp} (h1 : StOk gs rs A ss) (h2 : StOk gs rs B ts) (hA : ∀ x ∈ A, ItOk x) (hB : ∀ x ∈ B, ItOk x) (hl : A.length + B.length ≤ 4) :
    Good (StOk gs rs (A ++ B)) (zipT srt ss ts) 72 ∧ Few (zipT srt ss ts) 16 := by
  have lA := lens_byPl (gs := gs) rs.length A
  have lB := lens_byPl (gs := gs) rs.length B
  obtain ⟨g, f⟩ := good_zip S rs (byPl gs rs.length A) (byPl gs rs.length B) ss ts R.hi h1 h2 (byPl_ok hA _) (byPl_ok hB _) (by omega)
  rw [zipA_byPl] at g
  refine ⟨g.mono (by have := R.le3; omega), f.mono ?_⟩
  have e : (16 : Nat) = 2 ^ 4 := by decide
  rw [e]
  exact Nat.pow_le_pow_right (by decide) (by omega)
theorem good_one (S : SrtOk srt) (R : RsOk gs rs) (A : List Itm) (hA : ∀ x ∈ A, ItOk x) (hl : A.length ≤ 4) : Good (fun _ => True) (wholeT srt gs rs [A]) 168 ∧ Few (wholeT srt gs rs [A]) 3456 := by
  obtain ⟨g, f⟩ := good_puts0 S R A hA hl
  have e : wholeT srt gs rs [A] = (putsT srt gs rs (empties rs) A).bind fun ss => .ret (outOf ss) := by
    show (((putsT srt gs rs (empties rs) A).bind fun ss => .ret [ss]).bind _) = _
    rw [Tr.bind_assoc]
    rfl
  rw [e]
  refine ⟨(Good.bind (b' := 0) (f := fun ss => .ret (outOf ss)) (S := fun _ => True) (fun ss _ => True.intro) g).mono (by omega), (few_map f _).mono ?_⟩
  exact Nat.le_trans (Nat.pow_le_pow_right (by decide) (show A.length - 1 ≤ 3 by omega)) (by decide)
theorem good_two (S : SrtOk srt) (R : RsOk gs rs) (A B : List Itm) (hA : ∀ x ∈ A, ItOk x) (hB : ∀ x ∈ B, ItOk x) (hl : A.length + B.length ≤ 4) : Good (fun _ => True) (wholeT srt gs rs [A, B]) 168 ∧ Few (wholeT srt gs rs [A, B]) 3456 := by
  obtain ⟨g1, f1⟩ := good_puts0 S R A hA (by omega)
  obtain ⟨g2, f2⟩ := good_puts0 S R B hB (by omega)
  have e : wholeT srt gs rs [A, B] = (putsT srt gs rs (empties rs) A).bind fun ss => (putsT srt gs rs (empties rs) B).bind fun ts => (zipT srt ss ts).bind fun us => .ret (outOf us) := by
    show (((putsT srt gs rs (empties rs) A).bind fun ss => ((putsT srt gs rs (empties rs) B).bind fun ts => .ret [ts]).bind fun l => .ret (ss :: l)).bind _) = _
    rw [Tr.bind_assoc]
    congr 1
    funext ss
    rw [Tr.bind_assoc, Tr.bind_assoc]
    congr 1
    funext ts
    show ((zipT srt ss ts).bind fun us => .ret us).bind _ = _
    rw [Tr.bind_assoc]
    rfl
  rw [e]
  refine ⟨?_, ?_⟩
  · refine (Good.bind (b' := 24 * B.length + 72) (fun ss h1 => Good.bind (b' := 72) (fun ts h2 => ?_) g2) g1).mono (by omega)
    exact Good.bind (b' := 0) (f := fun us => .ret (outOf us)) (S := fun _ => True) (fun us _ => True.intro) (good_zip' S R h1 h2 hA hB hl).1
  · refine (Few.bind (d := 6 ^ (B.length - 1) * 16) g1 f1 fun ss h1 => Few.bind g2 f2 fun ts h2 => few_map (good_zip' S R h1 h2 hA hB hl).2 _).mono ?_
    have q : 6 ^ (A.length - 1) * 6 ^ (B.length - 1) ≤ 6 ^ 3 := by
      rw [← Nat.pow_add]
      exact Nat.pow_le_pow_right (by decide) (by omega)
    rw [← Nat.mul_assoc]
    exact Nat.mul_le_mul_right 16 q
end
/-- a run that fits ends well -/
theorem good_run {α : Type} {R : α → Prop} (t : Tr α) : ∀ {b : Nat} (e : ES), Good R t b → Fit t e → R (run t e).1 := by
  induction t with
  | ret a => exact fun _ h _ => h
  | pick ws k ih =>
    rintro b e ⟨hw, c, b', hb, hc, hg⟩ ⟨_, _, _, hv, hf⟩
    refine ih (pkN ws e) (pkE ws e) (hg _ ?_) hf
    rcases hv with hv | ⟨n, h1, h2⟩
    · rw [(pk_end hv).2]
      exact (first_pos hw).1
    · rw [(pk_mid (ws := ws) h1).2]
      exact h2
end Sam

set_option maxHeartbeats 4000000
namespace Sam
open PySem PySem.Spec PyProof.Rows L2
/-! ### the explorer as an object -/
def exF (l : Addr) (at_ : Int) (ch : V) (op ov : Bool) (many : Int) (rw : Addr) : List (Str × V) :=
  [("path", .ref l), ("at", .int at_), ("chance", ch), ("is_open", .bl op), ("is_over", .bl ov), ("many", .int many), ("rows", .ref rw)]
section
variable (l : Addr) (at_ : Int) (ch : V) (op ov : Bool) (many : Int) (rw : Addr)
theorem ex_path : (exF l at_ ch op ov many rw).lookup ("path" : Str) = some (.ref l) := by kernel_rfl
theorem ex_at : (exF l at_ ch op ov many rw).lookup ("at" : Str) = some (.int at_) := by kernel_rfl
theorem ex_ch : (exF l at_ ch op ov many rw).lookup ("chance" : Str) = some ch := by kernel_rfl
theorem ex_op : (exF l at_ ch op ov many rw).lookup ("is_open" : Str) = some (.bl op) := by kernel_rfl
theorem ex_ov : (exF l at_ ch op ov many rw).lookup ("is_over" : Str) = some (.bl ov) := by kernel_rfl
theorem ex_many : (exF l at_ ch op ov many rw).lookup ("many" : Str) = some (.int many) := by kernel_rfl
theorem ex_rows : (exF l at_ ch op ov many rw).lookup ("rows" : Str) = some (.ref rw) := by kernel_rfl
theorem ex_no (m : Str) (h : (["path", "at", "chance", "is_open", "is_over", "many", "rows"] : List Str).contains m = false) : (exF l at_ ch op ov many rw).lookup m = none := by
  simp only [List.contains_eq_mem, decide_eq_false_iff_not, List.mem_cons, not_or] at h
  obtain ⟨h1, h2, h3, h4, h5, h6, h7, _⟩ := h
  unfold exF
  simp only [List.lookup, beq_eq_false_iff_ne.mpr h1, beq_eq_false_iff_ne.mpr h2, beq_eq_false_iff_ne.mpr h3, beq_eq_false_iff_ne.mpr h4, beq_eq_false_iff_ne.mpr h5, beq_eq_false_iff_ne.mpr h6, beq_eq_false_iff_ne.mpr h7]
theorem ex_pat (z : Int) : putF ("at" : Str) (.int z) (exF l at_ ch op ov many rw) = exF l z ch op ov many rw := by kernel_rfl
theorem ex_pch (v : V) : putF ("chance" : Str) v (exF l at_ ch op ov many rw) = exF l at_ v op ov many rw := by kernel_rfl
theorem ex_pop (b : Bool) : putF ("is_open" : Str) (.bl b) (exF l at_ ch op ov many rw) = exF l at_ ch b ov many rw := by kernel_rfl
theorem ex_pov (b : Bool) : putF ("is_over" : Str) (.bl b) (exF l at_ ch op ov many rw) = exF l at_ ch op b many rw := by kernel_rfl
theorem ex_pmany (z : Int) : putF ("many" : Str) (.int z) (exF l at_ ch op ov many rw) = exF l at_ ch op ov z rw := by kernel_rfl
end

/-! ### where the explorer stands; what stays -/
structure Dc where
  p : Addr
  l : Addr
  rw : Addr
def Dc.X (d : Dc) (b : Addr) : Prop := b = d.p ∨ b = d.l ∨ b = d.rw
/-- tuples stay, and what is locked -/
structure Ts (H H' : Hp) : Prop where
  tup : ∀ b xs, H b = some (.tup xs) → H' b = some (.tup xs)
  frz : ∀ b o u, H b = some (.frz o u) → H' b = some (.frz o u)
theorem Ts.of_same {H H' : Hp} (h : Same H H') : Ts H H' := ⟨fun b xs e => h b _ e, fun b o u e => h b _ e⟩
theorem Ts.refl (H : Hp) : Ts H H := .of_same (Same.refl H)
theorem Ts.trans {H H1 H2 : Hp} (a : Ts H H1) (b : Ts H1 H2) : Ts H H2 := ⟨fun c xs e => b.tup c xs (a.tup c xs e), fun c o u e => b.frz c o u (a.frz c o u e)⟩
theorem Ts.seqT {K : PySem.W.Frag} {H H' : Hp} {a : Addr} {xs : List V} (e : Ts H H') (h : SqT K H a xs) : SqT K H' a xs := by
  rcases h with (h | ⟨o, h⟩) | h
  · exact .inl (.inl (e.tup _ _ h))
  · exact .inl (.inr ⟨o, e.frz _ _ _ h⟩)
  · exact .inr h
theorem Fr.ts {K : PySem.W.Frag} {H H' : Hp} {v : V} {x : Rat} (h : Fr K H v x) (e : Ts H H') : Fr K H' v x := let ⟨a, p, q⟩ := h; ⟨a, p, e.seqT q⟩
/-- an object that is no tuple is changed -/
theorem ts_upd {H : Hp} {a : Addr} {o u : HO} (h : H a = some o) (h1 : ∀ xs, o ≠ .tup xs) (h2 : ∀ ob z, o ≠ .frz ob z) : Ts H (upd H a u) :=
  ⟨fun b xs e => by rw [upd_ne (fun z => by subst z; rw [h] at e; exact h1 xs (Option.some.inj e))]; exact e, fun b ob z e => by rw [upd_ne (fun y => by subst y; rw [h] at e; exact h2 ob z (Option.some.inj e))]; exact e⟩
theorem ts_ins {H : Hp} {a C dx : Addr} {fs : List (Str × V)} {u : HO} (h : H a = some (.ins C dx fs)) : Ts H (upd H a u) := ts_upd h (fun _ q => nomatch q) fun _ _ q => nomatch q
theorem ts_lst {H : Hp} {a : Addr} {xs : List V} {u : HO} (h : H a = some (.lst xs)) : Ts H (upd H a u) := ts_upd h (fun _ q => nomatch q) fun _ _ q => nomatch q
theorem ts_new {H : Hp} {a : Addr} {u : HO} (h : H a = none) : Ts H (upd H a u) := .of_same (same_new h)
/-- all but the explorer's own cells stays -/
structure Kp (d : Dc) (H H' : Hp) : Prop where
  keep : ∀ b o, H b = some o → ¬ d.X b → H' b = some o
  ts : Ts H H'
section
variable {d : Dc} {H H1 H2 : Hp}
theorem Kp.of_same (h : Same H H1) : Kp d H H1 := ⟨fun b o e _ => h b o e, .of_same h⟩
theorem Kp.refl (H : Hp) : Kp d H H := .of_same (Same.refl H)
theorem Kp.trans (a : Kp d H H1) (b : Kp d H1 H2) : Kp d H H2 := ⟨fun c o e n => b.keep c o (a.keep c o e n) n, a.ts.trans b.ts⟩
theorem Kp.new {a : Addr} {u : HO} (h : H a = none) : Kp d H (upd H a u) := .of_same (same_new h)
theorem Kp.free (k : Kp d H H1) {b : Addr} (h : H1 b = none) (n : ¬ d.X b) : H b = none := by
  cases q : H b with
  | none => rfl
  | some o =>
    rw [k.keep b o q n] at h
    cases h
theorem Kp.cell {a : Addr} {o u : HO} (h : H a = some o) (hx : d.X a) (t : Ts H (upd H a u)) : Kp d H (upd H a u) :=
  ⟨fun b z e n => by rw [upd_ne (fun y => by subst y; exact n hx)]; exact e, t⟩
/-- a new object of ours changes -/
theorem Kp.mine {a : Addr} {u : HO} (k : Kp d H H1) (h : H a = none) : Kp d H (upd H1 a u) :=
  ⟨fun b o e n => by rw [upd_ne (ne_of_none e h)]; exact k.keep b o e n, ⟨fun b xs e => by rw [upd_ne (ne_of_none e h)]; exact k.ts.tup b xs e, fun b o z e => by rw [upd_ne (ne_of_none e h)]; exact k.ts.frz b o z e⟩⟩
end
/-! ### the explorer's data; Y: cells that others change -/
def PathL (Y : Addr → Prop) (H : Hp) : List V → Path → Prop := Paired fun v x => ∃ t wl, v = .ref t ∧ H t = some (.tup [.int x.1, .ref wl]) ∧ H wl = some (.lst (x.2.map V.int)) ∧ ¬ Y wl ∧ x.1 < x.2.length ∧ x.2.length ≤ 100
theorem PathL.kp {d : Dc} {Y : Addr → Prop} {H H' : Hp} {vs : List V} {p : Path} (h : PathL Y H vs p) (k : Kp d H H') (hx : ∀ b, d.X b → Y b) : PathL Y H' vs p := L2.Paired.mapP h fun _ _ ⟨t, wl, a, b, c, e⟩ => ⟨t, wl, a, k.ts.tup _ _ b, k.keep _ _ c fun z => e.1 (hx _ z), e⟩
/-- an outcome: a tuple of pairs (number, tuple of keys) -/
def OutV (K : PySem.W.Frag) (H : Hp) (v : V) (x : Outcome) : Prop := ∃ a vs, v = .ref a ∧ SqT K H a vs ∧ Paired (fun v (y : Int × List Str) => ∃ t k, v = .ref t ∧ SqT K H t [.int y.1, .ref k] ∧ SqT K H k (y.2.map V.str)) vs x
theorem OutV.ts {K : PySem.W.Frag} {H H' : Hp} {v : V} {x : Outcome} (h : OutV K H v x) (e : Ts H H') : OutV K H' v x := by
  obtain ⟨a, vs, h1, h2, h3⟩ := h
  exact ⟨a, vs, h1, e.seqT h2, L2.Paired.mapP h3 fun _ _ ⟨t, k, p, q, r⟩ => ⟨t, k, p, e.seqT q, e.seqT r⟩⟩
def RowL (K : PySem.W.Frag) (H : Hp) : List V → List (Outcome × Rat) → Prop := Paired fun v x => ∃ t o c, v = .ref t ∧ SqT K H t [o, c] ∧ OutV K H o x.1 ∧ Fr K H c x.2
theorem RowL.ts {K : PySem.W.Frag} {H H' : Hp} {vs : List V} {x : List (Outcome × Rat)} (h : RowL K H vs x) (e : Ts H H') : RowL K H' vs x := L2.Paired.mapP h fun _ _ ⟨t, o, c, p, q, r, s⟩ => ⟨t, o, c, p, e.seqT q, r.ts e, s.ts e⟩
abbrev CE (K : PySem.W.Frag) : Addr := He.ga K "Explorer"
/-- the explorer stands there -/
structure ExA (K : PySem.W.Frag) (d : Dc) (Y : Addr → Prop) (H : Hp) (e : ES) (op ov : Bool) (rows : List (Outcome × Rat)) (dx : Addr) (ch : V) (ps rs : List V) : Prop where
  ins : H d.p = some (.ins (CE K) dx (exF d.l e.at_ ch op ov rows.length d.rw))
  fr : Fr K H ch e.ch
  lst : H d.l = some (.lst ps)
  path : PathL Y H ps e.path
  rws : H d.rw = some (.lst rs)
  rowl : RowL K H rs rows
  ne : d.l ≠ d.rw
  xy : ∀ b, d.X b → Y b
  yd : ∀ b, Y b → H b ≠ none
def ExAt (K : PySem.W.Frag) (d : Dc) (Y : Addr → Prop) (H : Hp) (e : ES) (op ov : Bool) (rows : List (Outcome × Rat)) : Prop := ∃ dx ch ps rs, ExA K d Y H e op ov rows dx ch ps rs
section
variable {K : PySem.W.Frag} {d : Dc} {Y : Addr → Prop} {H : Hp} {e : ES} {op ov : Bool} {rows : List (Outcome × Rat)} {dx : Addr} {ch : V} {ps rs : List V}
theorem ExA.pl (h : ExA K d Y H e op ov rows dx ch ps rs) : d.p ≠ d.l := ne_of h.ins h.lst (by intro z; cases z)
theorem ExA.pr (h : ExA K d Y H e op ov rows dx ch ps rs) : d.p ≠ d.rw := ne_of h.ins h.rws (by intro z; cases z)
theorem ExA.newY (h : ExA K d Y H e op ov rows dx ch ps rs) {a : Addr} (ha : H a = none) : ¬ Y a := fun z => h.yd a z ha
theorem ExA.newX (h : ExA K d Y H e op ov rows dx ch ps rs) {a : Addr} (ha : H a = none) : ¬ d.X a := fun z => h.newY ha (h.xy a z)
theorem ExA.tupX (h : ExA K d Y H e op ov rows dx ch ps rs) {a : Addr} {xs : List V} (ha : H a = some (.tup xs)) : ¬ d.X a := by
  rintro (z | z | z)
  · rw [z, h.ins] at ha; cases ha
  · rw [z, h.lst] at ha; cases ha
  · rw [z, h.rws] at ha; cases ha
/-- what others do does not touch it -/
theorem ExA.same (h : ExA K d Y H e op ov rows dx ch ps rs) {H' : Hp} (s : Same H H') : ExA K d Y H' e op ov rows dx ch ps rs :=
  ⟨s _ _ h.ins, h.fr.same s, s _ _ h.lst, h.path.kp (.of_same s) h.xy, s _ _ h.rws, h.rowl.ts (.of_same s), h.ne, h.xy, fun b hb hn => h.yd b hb (s.free hn)⟩
/-- a new cell that will change -/
theorem ExA.grow (h : ExA K d Y H e op ov rows dx ch ps rs) {a : Addr} (ha : H a = none) (u : HO) : ExA K d (fun b => Y b ∨ b = a) (L2.upd H a u) e op ov rows dx ch ps rs := by
  have z := h.same (same_new (o := u) ha)
  refine ⟨z.ins, z.fr, z.lst, L2.Paired.mapP h.path fun v x ⟨t, wl, q1, q2, q3, q4⟩ => ⟨t, wl, q1, same_new ha _ _ q2, same_new ha _ _ q3, fun y => y.elim q4.1 fun y => ?_, q4.2⟩, z.rws, z.rowl, z.ne, fun b hb => .inl (z.xy b hb), fun b hb => hb.elim (z.yd b) fun y => ?_⟩
  · rw [y, ha] at q3
    cases q3
  · rw [y, upd_same]
    exact fun q => nomatch q
/-- such a cell changes -/
theorem ExA.upd (h : ExA K d Y H e op ov rows dx ch ps rs) {a : Addr} (hx : ¬ d.X a) (hy : Y a) {u : HO} (ht : Ts H (L2.upd H a u)) : ExA K d Y (L2.upd H a u) e op ov rows dx ch ps rs := by
  have n1 : d.p ≠ a := fun z => hx (.inl z.symm)
  have n2 : d.l ≠ a := fun z => hx (.inr (.inl z.symm))
  have n3 : d.rw ≠ a := fun z => hx (.inr (.inr z.symm))
  refine ⟨by rw [upd_ne n1]; exact h.ins, h.fr.ts ht, by rw [upd_ne n2]; exact h.lst, L2.Paired.mapP h.path fun v x ⟨t, wl, q1, q2, q3, q4⟩ => ⟨t, wl, q1, ht.tup _ _ q2, ?_, q4⟩, by rw [upd_ne n3]; exact h.rws, h.rowl.ts ht, h.ne, h.xy, fun b hb => ?_⟩
  · rw [upd_ne fun z => q4.1 (by rw [z]; exact hy)]
    exact q3
  · by_cases z : b = a
    · rw [z, upd_same]
      exact fun q => nomatch q
    · rw [upd_ne z]
      exact h.yd b hb
theorem ExA.less (h : ExA K d Y H e op ov rows dx ch ps rs) {Z : Addr → Prop} (hz : ∀ b, Z b → Y b) (hx : ∀ b, d.X b → Z b) : ExA K d Z H e op ov rows dx ch ps rs :=
  ⟨h.ins, h.fr, h.lst, L2.Paired.mapP h.path fun v x ⟨t, wl, q1, q2, q3, q4⟩ => ⟨t, wl, q1, q2, q3, fun y => q4.1 (hz _ y), q4.2⟩, h.rws, h.rowl, h.ne, hx, fun b hb => h.yd b (hz b hb)⟩
theorem ExAt.same (h : ExAt K d Y H e op ov rows) {H' : Hp} (s : Same H H') : ExAt K d Y H' e op ov rows := let ⟨a, b, c, f, q⟩ := h; ⟨a, b, c, f, q.same s⟩
theorem ExAt.grow (h : ExAt K d Y H e op ov rows) {a : Addr} (ha : H a = none) (u : HO) : ExAt K d (fun b => Y b ∨ b = a) (L2.upd H a u) e op ov rows := let ⟨x, b, c, f, q⟩ := h; ⟨x, b, c, f, q.grow ha u⟩
theorem ExAt.upd (h : ExAt K d Y H e op ov rows) {a : Addr} (hx : ¬ d.X a) (hy : Y a) {u : HO} (ht : Ts H (L2.upd H a u)) : ExAt K d Y (L2.upd H a u) e op ov rows := let ⟨x, b, c, f, q⟩ := h; ⟨x, b, c, f, q.upd hx hy ht⟩
theorem ExAt.less (h : ExAt K d Y H e op ov rows) {Z : Addr → Prop} (hz : ∀ b, Z b → Y b) (hx : ∀ b, d.X b → Z b) : ExAt K d Z H e op ov rows := let ⟨x, b, c, f, q⟩ := h; ⟨x, b, c, f, q.less hz hx⟩
theorem ExAt.newY (h : ExAt K d Y H e op ov rows) {a : Addr} (ha : H a = none) : ¬ Y a := let ⟨_, _, _, _, q⟩ := h; q.newY ha
theorem ExAt.newX (h : ExAt K d Y H e op ov rows) {a : Addr} (ha : H a = none) : ¬ d.X a := let ⟨_, _, _, _, q⟩ := h; q.newX ha
theorem ExAt.xy (h : ExAt K d Y H e op ov rows) : ∀ b, d.X b → Y b := let ⟨_, _, _, _, q⟩ := h; q.xy
end
end Sam

set_option maxHeartbeats 4000000
namespace Sam
open PySem PySem.Spec PyProof.Rows L2
theorem ixLK {X : Cx} (K : PySem.W.Frag) (h : X.K = K) : IxR X (rIxL K) := by
  subst h
  exact ix_list
theorem ixTK {X : Cx} (K : PySem.W.Frag) (h : X.K = K) : IxR X (rIxT K) := by
  subst h
  exact ix_tup
theorem at_sq {K : PySem.W.Frag} {α : Type} {H : Hp} {F : V → α → Prop} {vs : List V} {xs : List α} (h : Paired F vs xs) {i : Nat} {x : α} (hx : xs[i]? = some x) : ∃ v, vs[i]? = some v ∧ F v x := by
  have hl := Paired.len h
  have hi := (List.getElem?_eq_some_iff.mp hx).1
  have e : vs[i]? = some vs[i] := List.getElem?_eq_getElem (by omega)
  obtain ⟨y, hy, f⟩ := Paired.at_ h e
  rw [hx] at hy
  cases hy
  exact ⟨_, e, f⟩
theorem pair_snoc {α β : Type} {F : α → β → Prop} : ∀ {xs : List α} {ys : List β} {x : α} {y : β}, Paired F xs ys → F x y → Paired F (xs ++ [x]) (ys ++ [y])
  | _, _, _, _, .nil, h => .cons h .nil
  | _, _, _, _, .cons r t, h => .cons r (pair_snoc t h)
/-- the places of what may be picked, up to i -/
def pvs (ws : List Int) (i : Nat) : List V := ((List.range i).filter fun m => decide (0 < wAt ws m)).map fun m => V.int (m : Nat)
theorem pvs_succ (ws : List Int) (i : Nat) : pvs ws (i + 1) = pvs ws i ++ if 0 < wAt ws i then [V.int (i : Nat)] else [] := by
  unfold pvs
  rw [List.range_succ, List.filter_append, List.map_append]
  by_cases h : 0 < wAt ws i <;> simp [h]
theorem pvs_len (ws : List Int) (i : Nat) : (pvs ws i).length ≤ i := by
  unfold pvs
  rw [List.length_map]
  exact Nat.le_trans (List.length_filter_le _ _) (by rw [List.length_range]; exact Nat.le_refl _)
def spPick (K : PySem.W.Frag) : Sp := fun vs H Q _ => ∃ (d : Dc) (Y : Addr → Prop) (a : Addr) (ws : List Int) (e : ES) (rows : List (Outcome × Rat)), vs = [.ref d.p, .ref a] ∧ ExAt K d Y H e true false rows ∧ SqL K H a (ws.map V.int) ∧ ¬ d.X a ∧ WsOk ws ∧ Sz e.ch 4000 ∧ e.path.length ≤ 1000 ∧
  (e.at_ = e.path.length ∨ ∃ n, e.path[e.at_]? = some (n, ws) ∧ 0 < wAt ws n) ∧ ∀ H', Kp d H H' → ExAt K d Y H' (pkE ws e) true false rows → Q (.int (pkN ws e : Nat)) H'
section
variable {P : Program} {w : World} {K : PySem.W.Frag} {mg : Str → Option Value} {base : Heap}
theorem wAt_get {ws : List Int} {n : Nat} (h : n < ws.length) : (ws.map V.int)[n]? = some (V.int (wAt ws n)) := by
  rw [List.getElem?_map, List.getElem?_eq_getElem h]
  unfold wAt
  rw [List.getD_eq_getElem?_getD, List.getElem?_eq_getElem h]
  rfl
theorem SqL.kp {d : Dc} {Y : Addr → Prop} {H H' : Hp} {a : Addr} {xs : List V} (k : Kp d H H') (h : SqL K H a xs) (hx : ¬ d.X a) : SqL K H' a xs := by
  rcases h with (h | ⟨o, h⟩) | h
  · exact .inl (.inl (k.keep _ _ h hx))
  · exact .inl (.inr ⟨o, k.ts.frz _ _ _ h⟩)
  · exact .inr h
theorem ok_pick (T : Tx K mg) : CalM P w K mg base 3 (CE K) "pick" ["self", "weights"] (spPick K) := by
  obtain ⟨fd, F⟩ := T.d_Explorer_pick
  refine ⟨T.c_Explorer, _, fd, T.m_Explorer_pick, F.binds (ps := ["self", "weights"]) fun _ _ _ _ _ _ us hl => match us, hl with | [_, _], _ => rfl, F.ok sc_Explorer_pick (fun vs H Q E h => ?_) (fun cdv A outer s H vs Q E hr h => ?_)⟩
  · obtain ⟨d, Y, a, ws, e, rows, rfl, _⟩ := h
    rfl
  · obtain ⟨d, Y, a, ws, e, rows, rfl, ⟨dx, ch, ps, rs, X⟩, hS, hax, hW, hz, hpl, hv, k⟩ := h
    have nd := sc_Explorer_pick.nd
    have cl := T.c_Explorer
    refine ⟨_, C8.pss_cut (ps_if (pt_cmpR op_eq (pe_fld (pv 0) rfl) (pe_callB call_len_seq (by rfl) T.f_len PySem.boot_len (pa_cons (pe_fld (pv 0) rfl) pa_nil)) (nomark _))
        (pss_cons (ps_set (i := 2) nd rfl (Or.inl rfl) (pe_ix ix_list
          (pe_lc (own := [("number", 3)]) (g := gName 3) rfl nd (pi_range1 rfl T.f_range (pa_cons (pe_callB call_len_seq (by rfl) T.f_len PySem.boot_len (pa_cons (pv 1) pa_nil)) pa_nil))
            (blkOk_by (N := ["self", "weights", "first", "number"]) (sc := defScope s_Explorer_pick) (by decide +kernel)) (fun _ _ _ _ _ => pg_name (i := 3) nd rfl (Or.inl rfl))
            (fun _ _ _ _ _ => pts_one (pt_cmpR op_gt (pe_ix (ixLK K rfl) (pv 1) (pv 3) (fun _ _ => rfl)) pe_int (nomark _))) (fun _ _ _ _ _ => pv 3)) pe_int (fun _ _ => rfl)))
        (pss_one (ps_expr (pe_bm PySem.F.plainAttrs_list PySem.F.slot_list_append PySem.F.type_list_append mt_append (pe_fld (pv 0) rfl)
          (pa_cons (pe_tup (pa_cons (pv 2) (pa_cons (pe_callTy call_list_of (by rfl) T.f_list (by decide +kernel) (pa_cons (pv 1) pa_nil)) pa_nil))) pa_nil))))) pss_nil)
      (pss_cons (ps_set (i := 3) nd rfl (Or.inl rfl) (pe_ix ix_tup (pe_ix ix_list (pe_fld (pv 0) rfl) (pe_fld (pv 0) rfl) (fun _ _ => rfl)) pe_int (fun _ _ => rfl)))
      (pss_cons (ps_fldaug (pv 0) pe_int in_add)
      (pss_cons (ps_fld (pv 0) (pe_f (ok_times T) hr rfl (pa_cons (pe_fld (pv 0) rfl) (pa_cons (pe_f (ok_lowest T) hr rfl (pa_cons (pe_ix ix_list (pv 1) (pv 3) (fun _ _ => rfl)) (pa_cons (pe_callB (cr_sum rfl) (by rfl) T.f_sum (by decide +kernel) (pa_cons (pv 1) pa_nil)) pa_nil))) pa_nil))) rfl)
      (pss_one (ps_ret (pv 3)))))), ?_⟩
    have hpsl : ps.length = e.path.length := Paired.len X.path
    refine ⟨fun σ H1 => ∃ (o2 o3 : Option V) (ps' : List V), σ = [some (.ref d.p), some (.ref a), o2, o3] ∧ Kp d H H1 ∧ SqL K H1 a (ws.map V.int) ∧ ExA K d Y H1 ⟨pkPath ws e, e.at_, e.ch⟩ true false rows dx ch ps' rs, ?_, ?_⟩
    · -- if self.at == len(self.path)
      refine ⟨_, rfl, d.p, _, dx, _, _, rfl, X.ins, cl, T.n_Explorer_at, ex_at _ _ _ _ _ _ _, _, rfl, d.p, _, dx, _, _, rfl, X.ins, cl, T.n_Explorer_path, ex_path _ _ _ _ _ _ _, d.l, ps, rfl, .inl (SqL.of X.lst), rfl, _, rfl, ?_⟩
      have eq1 : decide (V.int (e.at_ : Int) = V.int (ps.length : Int)) = decide (e.at_ = e.path.length) := by
        rw [hpsl]
        refine decide_eq_decide.mpr ⟨fun q => ?_, fun q => by rw [q]⟩
        injection q with q
        omega
      show if decide (V.int (e.at_ : Int) = V.int (ps.length : Int)) = true then _ else _
      rw [eq1]
      refine ite2 (fun hat => ?_) (fun hat => ?_)
      · have hat := of_decide_eq_true hat
        have p0 := pk_end (ws := ws) hat
        -- first = [..][0]
        refine ⟨_, rfl, a, _, rfl, .inl hS, ((ws.map V.int).length : Int), rfl, by have := hW.len; rw [List.length_map]; omega, by have := hW.len; rw [List.length_map]; omega, fun D hD => lc_range (lo := 0) (n := (ws.map V.int).length) (fun i H1 => Same H H1 ∧ H1 D = some (.lst (pvs ws i)))
          ⟨same_new hD, upd_same⟩ ?_ ?_⟩
        · rintro i H1 hi ⟨s1, hDl⟩
          rw [List.length_map] at hi
          have ha1 : (0 : Int) + (i : Int) = ((i : Nat) : Int) := by omega
          refine ⟨rfl, ⟨_, rfl, _, rfl, a, ws.map V.int, _, _, rfl, rfl, s1.seq hS, at_of (j := i) ha1 (wAt_get hi), _, _, rfl, rfl, _, rfl, ?_⟩⟩
          have hsl : (pvs ws i).length < sizeLine := Nat.lt_of_le_of_lt (pvs_len ws i) (by have := hW.len; rw [sizeLine_eq]; omega)
          refine ite2 (fun hp => ?_) (fun hp => ?_)
          · have hp := of_decide_eq_true hp
            refine ⟨_, rfl, _, hDl, hsl, fun b o eb => ?_, ?_⟩
            · rw [upd_ne (ne_of_none eb hD)]
              exact s1 b o eb
            · rw [upd_same, pvs_succ, if_pos hp, ha1]
          · refine ⟨s1, ?_⟩
            have hp : ¬ 0 < wAt ws i := fun z => hp (decide_eq_true z)
            rw [pvs_succ, if_neg hp, List.append_nil]
            exact hDl
        · rintro H1 ⟨s1, hDl⟩
          rw [List.length_map] at hDl
          obtain ⟨r, er⟩ := poss_first hW
          have e0 : pvs ws ws.length = V.int (firstPos ws : Nat) :: r.map fun m => V.int (m : Nat) := by
            show (poss ws).map _ = _
            rw [er]
            rfl
          rw [e0] at hDl
          refine ⟨D, _, 0, _, rfl, rfl, SqL.of hDl, atI0, ?_⟩
          -- self.path.append((first, list(weights)))
          have X1 := X.same s1
          refine ⟨_, rfl, d.p, _, dx, _, _, rfl, X1.ins, cl, T.n_Explorer_path, ex_path _ _ _ _ _ _ _, .inl ⟨rfl, _, SqL.of X1.lst⟩, ?_⟩
          refine ⟨_, rfl, _, rfl, a, _, rfl, .inl (s1.seq hS), fun wl hwl => ⟨(by show 2 ≤ sizeLine; decide), fun t ht => ?_⟩⟩
          have X2 := (X1.same (same_new (o := .lst (ws.map V.int)) hwl)).same (same_new (o := .tup [.int (firstPos ws : Nat), .ref wl]) ht)
          refine ⟨d.l, ps, _, rfl, rfl, X2.lst, (by rw [hpsl, sizeLine_eq]; omega), ?_⟩
          have twl : (upd (upd H1 wl (.lst (ws.map V.int))) t (.tup [.int (firstPos ws : Nat), .ref wl])) wl = some (.lst (ws.map V.int)) := same_new ht _ _ upd_same
          have k2 : Kp d H (upd (upd H1 wl (.lst (ws.map V.int))) t (.tup [.int (firstPos ws : Nat), .ref wl])) := ((Kp.of_same s1).trans (.new hwl)).trans (.new ht)
          have kl := Kp.cell (d := d) X2.lst (.inr (.inl rfl)) (ts_lst (u := .lst (ps ++ [.ref t])) X2.lst)
          have nl : wl ≠ d.l := fun z => by rw [z, X1.lst] at hwl; cases hwl
          have ny : ¬ Y wl := X1.newY hwl
          refine ⟨_, _, ps ++ [.ref t], rfl, k2.trans kl, ?_, ?_⟩
          · exact SqL.kp (Y := Y) (k2.trans kl) hS hax
          · refine ⟨by rw [upd_ne X2.pl]; exact X2.ins, X2.fr.ts kl.ts, upd_same, ?_, by rw [upd_ne X2.ne.symm]; exact X2.rws, X2.rowl.ts kl.ts, X2.ne, X2.xy, fun b hb => ?_⟩
            · rw [p0.1]
              refine pair_snoc (X2.path.kp kl X2.xy) ⟨t, wl, rfl, kl.ts.tup _ _ upd_same, ?_, ny, (first_pos hW).2.1, hW.len⟩
              rw [upd_ne nl]
              exact twl
            · by_cases z : b = d.l
              · rw [z, upd_same]
                exact fun q => nomatch q
              · rw [upd_ne z]
                exact X2.yd b hb
      · have hat : ¬ e.at_ = e.path.length := fun z => hat (decide_eq_true z)
        have e1 : pkPath ws e = e.path := if_neg hat
        exact ⟨_, _, ps, rfl, Kp.refl H, hS, ⟨X.ins, X.fr, X.lst, by rw [e1]; exact X.path, X.rws, X.rowl, X.ne, X.xy, X.yd⟩⟩
    · rintro σ H1 ⟨o2, o3, ps', rfl, k1, hS1, X1⟩
      -- number = self.path[self.at][0]
      have hn : (pkPath ws e)[e.at_]? = some (pkN ws e, ws) ∧ 0 < wAt ws (pkN ws e) := by
        rcases hv with hv | ⟨n, h1, h2⟩
        · have p0 := pk_end (ws := ws) hv
          rw [p0.1, p0.2, hv, List.getElem?_append_right (Nat.le_refl _), Nat.sub_self]
          exact ⟨rfl, (first_pos hW).1⟩
        · have p0 := pk_mid (ws := ws) h1
          rw [p0.1, p0.2]
          exact ⟨h1, h2⟩
      obtain ⟨hn1, hn2⟩ := hn
      obtain ⟨v, hv1, t, wl, rfl, ht, hwl, hy⟩ := at_sq (K := K) (H := H1) X1.path hn1
      refine ⟨_, rfl, d.p, _, dx, _, _, rfl, X1.ins, cl, T.n_Explorer_path, ex_path _ _ _ _ _ _ _, _, rfl, d.p, _, dx, _, _, rfl, X1.ins, cl, T.n_Explorer_at, ex_at _ _ _ _ _ _ _, d.l, ps', _, _, rfl, rfl, SqL.of X1.lst, atI_nat hv1, t, _, 0, _, rfl, rfl, SqT.of ht, atI0, ?_⟩
      -- self.at += 1
      refine ⟨_, rfl, d.p, _, dx, _, _, rfl, X1.ins, cl, T.n_Explorer_at, ex_at _ _ _ _ _ _ _, _, _, rfl, rfl, dx, _, X1.ins, (by show 7 < 1000; decide), ?_⟩
      rw [ex_pat]
      -- self.chance = times(self.chance, lowest(weights[number], sum(weights)))
      generalize hH2 : upd H1 d.p _ = H2
      have i2 : H2 d.p = some (.ins (CE K) dx (exF d.l ((e.at_ : Int) + 1) ch true false rows.length d.rw)) := by rw [← hH2, upd_same]
      have t2 : Ts H1 H2 := by rw [← hH2]; exact ts_ins X1.ins
      have k2 : Kp d H1 H2 := by rw [← hH2]; exact Kp.cell X1.ins (.inl rfl) (ts_ins X1.ins)
      have l2 : ∀ b, b ≠ d.p → H2 b = H1 b := fun b hb => by rw [← hH2, upd_ne hb]
      have hS2 : SqL K H2 a (ws.map V.int) := SqL.kp (Y := Y) k2 hS1 hax
      have hnl := wAt_pos_lt hn2
      have hsp := hW.sum_pos
      have hle := hW.at_le (pkN ws e)
      have hs4 := hW.sum
      refine ⟨_, rfl, d.p, _, dx, _, _, rfl, i2, cl, T.n_Explorer_chance, ex_ch _ _ _ _ _ _ _, _, rfl, _, rfl, a, _, _, _, rfl, rfl, hS2, atI_nat (wAt_get hnl), _, rfl, a, ws, rfl, hS2, wAt ws (pkN ws e), ws.sum, rfl, hsp, ?_, fun q hq => ?_⟩
      · refine pow_lt9 (b := 16) (Nat.lt_of_le_of_lt (Nat.gcd_le_right _ (by omega)) ?_) (by decide)
        show ws.sum.natAbs < 65536
        omega
      refine ⟨ch, .ref q, e.ch, frac ws (pkN ws e), 4000, 16, rfl, (X1.fr.ts t2).same (same_new hq), Fr.new, hz, sz_frac hW (c := 16) (by show ws.sum < 65536; omega) _, by decide, fun c hc => ?_⟩
      have s3 : Same H2 (upd (upd H2 q (.tup [.int (frac ws (pkN ws e)).num, .int (frac ws (pkN ws e)).den])) c (.tup [.int (e.ch * frac ws (pkN ws e)).num, .int (e.ch * frac ws (pkN ws e)).den])) := (same_new hq).trans (same_new hc)
      refine ⟨_, rfl, d.p, _, dx, _, rfl, s3 _ _ i2, cl, T.n_Explorer_chance, (by show 7 < 1000; decide), ?_⟩
      rw [ex_pch]
      refine ⟨_, rfl, ?_⟩
      have i3 := s3 _ _ i2
      have k4 := Kp.cell (d := d) (u := .ins (CE K) dx (exF d.l ((e.at_ : Int) + 1) (.ref c) true false rows.length d.rw)) i3 (.inl rfl) (ts_ins i3)
      have kk : Kp d H1 _ := (k2.trans (.of_same s3)).trans k4
      refine k _ (k1.trans kk) ⟨dx, .ref c, ps', rs, ?_⟩
      refine ⟨upd_same, Fr.ts (Fr.new (x := e.ch * frac ws (pkN ws e))) k4.ts, ?_, X1.path.kp kk X1.xy, ?_, X1.rowl.ts kk.ts, X1.ne, X1.xy, fun b hb => ?_⟩
      · rw [upd_ne X1.pl.symm]
        refine s3 _ _ ?_
        rw [l2 _ X1.pl.symm]
        exact X1.lst
      · rw [upd_ne X1.pr.symm]
        refine s3 _ _ ?_
        rw [l2 _ X1.pr.symm]
        exact X1.rws
      · by_cases z : b = d.p
        · rw [z, upd_same]
          exact fun q => nomatch q
        · rw [upd_ne z]
          intro q
          have q2 := s3.free q
          rw [l2 _ z] at q2
          exact X1.yd b hb q2
end
end Sam

set_option maxHeartbeats 4000000
namespace Sam
open PySem PySem.Spec PyProof.Rows L2
/-! ### __init__, end -/
def spExInit (K : PySem.W.Frag) : Sp := fun vs H Q _ => ∃ (p dx : Addr), vs = [.ref p] ∧ H p = some (.ins (CE K) dx []) ∧
  ∀ (l rw : Addr) (H' : Hp), H l = none → H rw = none → (∀ b o, H b = some o → b ≠ p → H' b = some o) → ExAt K ⟨p, l, rw⟩ (Dc.X ⟨p, l, rw⟩) H' ⟨[], 0, 1⟩ false false [] → Q .non H'
def spEnd (K : PySem.W.Frag) : Sp := fun vs H Q _ => ∃ (d : Dc) (Y : Addr → Prop) (e : ES) (rows : List (Outcome × Rat)) (o : V) (x : Outcome), vs = [.ref d.p, o] ∧ ExAt K d Y H e true false rows ∧ OutV K H o x ∧ rows.length ≤ 20000 ∧
  ∀ H', Kp d H H' → ExAt K d Y H' e false false (rows ++ [(x, e.ch)]) → Q .non H'
section
variable {P : Program} {w : World} {K : PySem.W.Frag} {mg : Str → Option Value} {base : Heap}
theorem ok_ex_init (T : Tx K mg) : CalI P w K mg base 1 "Explorer" (CE K) ["self"] (spExInit K) := by
  obtain ⟨fd, F⟩ := T.d_Explorer_init
  refine ⟨T.g_Explorer, _, fd, T.k_Explorer, F.binds (ps := ["self"]) fun _ _ _ _ _ _ us hl => match us, hl with | [_], _ => rfl, F.ok sc_Explorer_init (fun vs H Q E h => ?_) (fun cdv A outer s H vs Q E hr h => ?_)⟩
  · obtain ⟨p, dx, rfl, _⟩ := h
    rfl
  · obtain ⟨p, dx, rfl, hp, k⟩ := h
    have cl := T.c_Explorer
    refine ⟨_, pss_cons (ps_fld (pv 0) (pe_lst pa_nil) rfl) (pss_cons (ps_fld (pv 0) pe_int rfl) (pss_cons (ps_fld (pv 0) (pe_glob rfl T.g_ONE_ratios (v := .ref _) rfl) rfl)
      (pss_cons (ps_fld (pv 0) pe_bl rfl) (pss_cons (ps_fld (pv 0) pe_bl rfl) (pss_cons (ps_fld (pv 0) pe_int rfl) (pss_one (ps_fld (pv 0) (pe_lst pa_nil) rfl))))))), ?_⟩
    refine ⟨Nat.zero_le _, fun l hl => ?_⟩
    have npl : p ≠ l := ne_of_none hp hl
    refine ⟨_, rfl, p, _, dx, [], rfl, (by rw [upd_ne npl]; exact hp), cl, T.n_Explorer_path, (by show 0 < 1000; decide), ?_⟩
    refine ⟨_, rfl, p, _, dx, _, rfl, upd_same, cl, T.n_Explorer_at, (by show 1 < 1000; decide), ?_⟩
    refine ⟨_, rfl, p, _, dx, _, rfl, upd_same, cl, T.n_Explorer_chance, (by show 2 < 1000; decide), ?_⟩
    refine ⟨_, rfl, p, _, dx, _, rfl, upd_same, cl, T.n_Explorer_is_open, (by show 3 < 1000; decide), ?_⟩
    refine ⟨_, rfl, p, _, dx, _, rfl, upd_same, cl, T.n_Explorer_is_over, (by show 4 < 1000; decide), ?_⟩
    refine ⟨_, rfl, p, _, dx, _, rfl, upd_same, cl, T.n_Explorer_many, (by show 5 < 1000; decide), ?_⟩
    refine ⟨Nat.zero_le _, fun rw hrw => ?_⟩
    have e0 : ∀ b, b ≠ p → (upd (upd (upd (upd (upd (upd (upd H l (.lst [])) p (.ins (CE K) dx (putF "path" (.ref l) []))) p (.ins (CE K) dx (putF "at" (.int 0) (putF "path" (.ref l) [])))) p (.ins (CE K) dx (putF "chance" (.ref (He.ga K "ONE_ratios")) (putF "at" (.int 0) (putF "path" (.ref l) []))))) p (.ins (CE K) dx (putF "is_open" (.bl false) (putF "chance" (.ref (He.ga K "ONE_ratios")) (putF "at" (.int 0) (putF "path" (.ref l) [])))))) p (.ins (CE K) dx (putF "is_over" (.bl false) (putF "is_open" (.bl false) (putF "chance" (.ref (He.ga K "ONE_ratios")) (putF "at" (.int 0) (putF "path" (.ref l) []))))))) p (.ins (CE K) dx (putF "many" (.int 0) (putF "is_over" (.bl false) (putF "is_open" (.bl false) (putF "chance" (.ref (He.ga K "ONE_ratios")) (putF "at" (.int 0) (putF "path" (.ref l) [])))))))) b = upd H l (.lst []) b := fun b hb => by rw [upd_ne hb, upd_ne hb, upd_ne hb, upd_ne hb, upd_ne hb, upd_ne hb]
    have npr : p ≠ rw := fun z => by rw [← z, upd_same] at hrw; cases hrw
    have hrw0 : upd H l (.lst []) rw = none := by rw [← e0 rw npr.symm]; exact hrw
    have nlr : l ≠ rw := fun z => by rw [← z, upd_same] at hrw0; cases hrw0
    have hrw1 : H rw = none := by rw [upd_ne nlr.symm] at hrw0; exact hrw0
    refine ⟨_, rfl, p, _, dx, _, rfl, (by rw [upd_ne npr, upd_same]), cl, T.n_Explorer_rows, (by show 6 < 1000; decide), ?_⟩
    have e1 : putF "rows" (.ref rw) (putF "many" (.int 0) (putF "is_over" (.bl false) (putF "is_open" (.bl false) (putF "chance" (.ref (He.ga K "ONE_ratios")) (putF "at" (.int 0) (putF "path" (.ref l) [])))))) = exF l 0 (.ref (He.ga K "ONE_ratios")) false false 0 rw := by kernel_rfl
    refine k l rw _ hl hrw1 (fun b o eb hb => ?_) ⟨dx, .ref (He.ga K "ONE_ratios"), [], [], ?_, fr_one T _, ?_, .nil, ?_, .nil, nlr, fun _ h => h, ?_⟩
    · have nbr : b ≠ rw := ne_of_none eb hrw1
      rw [upd_ne hb, upd_ne nbr, e0 b hb, upd_ne (ne_of_none eb hl)]
      exact eb
    · rw [upd_same, e1]
      rfl
    · show upd _ p _ l = _
      rw [upd_ne npl.symm, upd_ne nlr, e0 l npl.symm, upd_same]
    · show upd _ p _ rw = _
      rw [upd_ne npr.symm, upd_same]
    · intro b hb
      rcases hb with z | z | z
      · rw [z]
        show upd _ p _ p ≠ _
        rw [upd_same]
        exact fun q => nomatch q
      · rw [z]
        show upd _ p _ l ≠ _
        rw [upd_ne npl.symm, upd_ne nlr, e0 l npl.symm, upd_same]
        exact fun q => nomatch q
      · rw [z]
        show upd _ p _ rw ≠ _
        rw [upd_ne npr.symm, upd_same]
        exact fun q => nomatch q
theorem ok_ex_end (T : Tx K mg) : CalM P w K mg base 1 (CE K) "end" ["self", "outcome"] (spEnd K) := by
  obtain ⟨fd, F⟩ := T.d_Explorer_end
  refine ⟨T.c_Explorer, _, fd, T.m_Explorer_end, F.binds (ps := ["self", "outcome"]) fun _ _ _ _ _ _ us hl => match us, hl with | [_, _], _ => rfl, F.ok sc_Explorer_end (fun vs H Q E h => ?_) (fun cdv A outer s H vs Q E hr h => ?_)⟩
  · obtain ⟨d, Y, e, rows, o, x, rfl, _⟩ := h
    rfl
  · obtain ⟨d, Y, e, rows, o, x, rfl, ⟨dx, ch, ps, rs, X⟩, ho, hl, k⟩ := h
    have cl := T.c_Explorer
    refine ⟨_, pss_cons (ps_expr (pe_bm PySem.F.plainAttrs_list PySem.F.slot_list_append PySem.F.type_list_append mt_append (pe_fld (pv 0) rfl) (pa_cons (pe_tup (pa_cons (pv 1) (pa_cons (pe_fld (pv 0) rfl) pa_nil))) pa_nil)))
      (pss_cons (ps_fldaug (pv 0) pe_int in_add) (pss_one (ps_fld (pv 0) pe_bl rfl))), ?_⟩
    refine ⟨_, rfl, d.p, _, dx, _, _, rfl, X.ins, cl, T.n_Explorer_rows, ex_rows _ _ _ _ _ _ _, .inl ⟨rfl, _, SqL.of X.rws⟩, _, rfl, _, rfl, d.p, _, dx, _, _, rfl, X.ins, cl, T.n_Explorer_chance, ex_ch _ _ _ _ _ _ _, (by show 2 ≤ sizeLine; decide), fun t ht => ?_⟩
    have X1 := X.same (same_new (o := .tup [o, ch]) ht)
    have hrl : rs.length = rows.length := Paired.len X.rowl
    refine ⟨d.rw, rs, _, rfl, rfl, X1.rws, (by rw [hrl, sizeLine_eq]; omega), ?_⟩
    generalize hH2 : upd (upd H t _) d.rw _ = H2
    have k2 : Kp d (upd H t (.tup [o, ch])) H2 := by rw [← hH2]; exact Kp.cell X1.rws (.inr (.inr rfl)) (ts_lst X1.rws)
    have l2 : ∀ b, b ≠ d.rw → H2 b = upd H t (.tup [o, ch]) b := fun b hb => by rw [← hH2, upd_ne hb]
    have r2 : H2 d.rw = some (.lst (rs ++ [.ref t])) := by rw [← hH2, upd_same]
    have i2 : H2 d.p = some (.ins (CE K) dx (exF d.l e.at_ ch true false rows.length d.rw)) := by rw [l2 _ X.pr]; exact X1.ins
    refine ⟨_, rfl, d.p, _, dx, _, _, rfl, i2, cl, T.n_Explorer_many, ex_many _ _ _ _ _ _ _, _, _, rfl, rfl, dx, _, i2, (by show 7 < 1000; decide), ?_⟩
    rw [ex_pmany]
    refine ⟨_, rfl, d.p, _, dx, _, rfl, upd_same, cl, T.n_Explorer_is_open, (by show 7 < 1000; decide), ?_⟩
    rw [ex_pop, upd_upd]
    generalize hH3 : upd H2 d.p _ = H3
    have i3 : H3 d.p = some (.ins (CE K) dx (exF d.l e.at_ ch false false ((rows.length : Int) + 1) d.rw)) := by rw [← hH3, upd_same]
    have k3 : Kp d H2 H3 := by rw [← hH3]; exact Kp.cell i2 (.inl rfl) (ts_ins i2)
    have l3 : ∀ b, b ≠ d.p → H3 b = H2 b := fun b hb => by rw [← hH3, upd_ne hb]
    have kk : Kp d H H3 := ((Kp.new ht).trans k2).trans k3
    refine k H3 kk ⟨dx, ch, ps, rs ++ [.ref t], ?_, X.fr.ts kk.ts, ?_, X.path.kp kk X.xy, ?_, ?_, X.ne, X.xy, fun b hb => ?_⟩
    · rw [i3, List.length_append]
      rfl
    · rw [l3 _ X.pl.symm, l2 _ X.ne]
      exact X1.lst
    · rw [l3 _ X.pr.symm]
      exact r2
    · refine pair_snoc (X.rowl.ts kk.ts) ⟨t, o, ch, rfl, (k2.trans k3).ts.seqT (SqT.of upd_same), ho.ts kk.ts, X.fr.ts kk.ts⟩
    · by_cases z : b = d.p
      · rw [z, i3]
        exact fun q => nomatch q
      · rw [l3 _ z]
        by_cases z2 : b = d.rw
        · rw [z2, r2]
          exact fun q => nomatch q
        · rw [l2 _ z2]
          exact X1.yd b hb
/-! ### advance -/
theorem next_some {ws : List Int} {n m : Nat} (h1 : n < m) (h2 : 0 < wAt ws m) (h3 : ∀ j, n < j → j < m → ¬ 0 < wAt ws j) : nextPos ws n = some m := by
  unfold nextPos
  rw [List.find?_range_eq_some]
  refine ⟨by simp [h1, h2], List.mem_range.mpr (wAt_pos_lt h2), fun j hj => ?_⟩
  by_cases z : n < j
  · simp [z, h3 j z hj]
  · simp [z]
theorem next_none {ws : List Int} {n : Nat} (h : ∀ j, n < j → j < ws.length → ¬ 0 < wAt ws j) : nextPos ws n = none := by
  unfold nextPos
  rw [List.find?_range_eq_none]
  intro j hj
  by_cases z : n < j
  · simp [z, h j z hj]
  · simp [z]
theorem pair_last {α β : Type} {F : α → β → Prop} {xs : List α} {ys : List β} {y : β} (h : Paired F xs (ys ++ [y])) : ∃ zs x, xs = zs ++ [x] ∧ Paired F zs ys ∧ F x y := by
  induction ys generalizing xs with
  | nil =>
    cases h with
    | cons r t =>
      cases t
      exact ⟨[], _, rfl, .nil, r⟩
  | cons z ys ih =>
    cases h with
    | cons r t =>
      obtain ⟨zs, x, rfl, p, q⟩ := ih t
      exact ⟨_ :: zs, x, rfl, .cons r p, q⟩
def spAdv (K : PySem.W.Frag) : Sp := fun vs H Q _ => ∃ (d : Dc) (Y : Addr → Prop) (e : ES) (op ov : Bool) (rows : List (Outcome × Rat)), vs = [.ref d.p] ∧ ExAt K d Y H e op ov rows ∧ e.path.length ≤ 1000 ∧
  ∀ H', Kp d H H' → match adv e.path with
    | some p' => ExAt K d Y H' { e with path := p' } op ov rows → Q (.bl true) H'
    | none => ExAt K d Y H' { e with path := [] } op ov rows → Q (.bl false) H'
/-- the path is another list -/
theorem ExA.setPath {d : Dc} {Y : Addr → Prop} {H : Hp} {e : ES} {op ov : Bool} {rows : List (Outcome × Rat)} {dx : Addr} {ch : V} {ps rs : List V} (X : ExA K d Y H e op ov rows dx ch ps rs) {ps' : List V} {p' : Path}
    (hp : PathL Y H ps' p') : ExA K d Y (L2.upd H d.l (.lst ps')) { e with path := p' } op ov rows dx ch ps' rs ∧ Kp d H (L2.upd H d.l (.lst ps')) := by
  have k2 := Kp.cell (d := d) (u := .lst ps') X.lst (.inr (.inl rfl)) (ts_lst X.lst)
  refine ⟨⟨by rw [upd_ne X.pl]; exact X.ins, X.fr.ts k2.ts, upd_same, hp.kp k2 X.xy, by rw [upd_ne X.ne.symm]; exact X.rws, X.rowl.ts k2.ts, X.ne, X.xy, fun b hb => ?_⟩, k2⟩
  by_cases z : b = d.l
  · rw [z, upd_same]
    exact fun q => nomatch q
  · rw [upd_ne z]
    exact X.yd b hb
theorem ok_advance (T : Tx K mg) : CalM P w K mg base 1 (CE K) "advance" ["self"] (spAdv K) := by
  obtain ⟨fd, F⟩ := T.d_Explorer_advance
  refine ⟨T.c_Explorer, _, fd, T.m_Explorer_advance, F.binds (ps := ["self"]) fun _ _ _ _ _ _ us hl => match us, hl with | [_], _ => rfl, F.ok sc_Explorer_advance (fun vs H Q E h => ?_) (fun cdv A outer s H vs Q E hr h => ?_)⟩
  · obtain ⟨d, Y, e, op, ov, rows, rfl, _⟩ := h
    rfl
  · obtain ⟨d, Y, e, op, ov, rows, rfl, ⟨dx, ch, ps, rs, X⟩, hpl, k⟩ := h
    have cl := T.c_Explorer
    have nd := sc_Explorer_advance.nd
    refine ⟨_, pss_cons (ps_while PassesOwn.never (pt_cmpR op_gt (pe_callB call_len_seq (by rfl) T.f_len PySem.boot_len (pa_cons (pe_fld (pv 0) rfl) pa_nil)) pe_int (nomark _))
        (pss_cons (ps_asg (pe_bm0 PySem.F.plainAttrs_list PySem.F.slot_list_pop PySem.F.type_list_pop mt_pop (pe_fld (pv 0) rfl)) (pg_tup rfl (pgs_cons (pg_name (i := 1) nd rfl (.inl rfl)) (pgs_cons (pg_name (i := 2) nd rfl (.inl rfl)) pgs_nil))))
        (pss_one (ps_for PassesOwn.never rfl (pi_range2 (by rfl) T.f_range (pa_cons (pe_op op_add (pv 1) pe_int) (pa_cons (pe_callB call_len_seq (by rfl) T.f_len PySem.boot_len (pa_cons (pv 2) pa_nil)) pa_nil))) (pg_name (i := 3) nd rfl (.inl rfl))
          (pss_one (ps_if (pt_cmpR op_gt (pe_ix ix_list (pv 2) (pv 3) (fun _ _ => rfl)) pe_int (nomark _))
            (pss_cons (ps_expr (pe_bm PySem.F.plainAttrs_list PySem.F.slot_list_append PySem.F.type_list_append mt_append (pe_fld (pv 0) rfl) (pa_cons (pe_tup (pa_cons (pv 3) (pa_cons (pv 2) pa_nil))) pa_nil))) (pss_one (ps_ret pe_bl))) pss_nil))))))
      (pss_one (ps_ret pe_bl)), ?_⟩
    refine ⟨fun m σ H1 => ∃ (o1 o2 o3 : Option V) (ps' : List V) (p' : Path), σ = [some (.ref d.p), o1, o2, o3] ∧ Kp d H H1 ∧ ExA K d Y H1 { e with path := p' } op ov rows dx ch ps' rs ∧ adv p' = adv e.path ∧ p'.length ≤ 1000 ∧ m = p'.length,
      ⟨_, none, none, none, ps, e.path, rfl, Kp.refl H, X, rfl, hpl, rfl⟩, ?_⟩
    rintro m σ H1 ⟨o1, o2, o3, ps', p', rfl, k1, X1, ha, hp1, rfl⟩
    have hl1 : ps'.length = p'.length := Paired.len X1.path
    refine ⟨_, rfl, d.p, _, dx, _, _, rfl, X1.ins, cl, T.n_Explorer_path, ex_path _ _ _ _ _ _ _, d.l, ps', rfl, .inl (SqL.of X1.lst), _, _, rfl, rfl, _, rfl, ?_⟩
    refine ite2 (fun hgt => ?_) (fun hgt => ?_)
    · have hgt := of_decide_eq_true hgt
      rw [hl1] at hgt
      obtain ⟨pi, ⟨n, ws⟩, rfl⟩ : ∃ pi x, p' = pi ++ [x] := ⟨p'.dropLast, p'.getLast (fun z => by rw [z] at hgt; exact absurd hgt (by decide)), (List.dropLast_concat_getLast _).symm⟩
      obtain ⟨zs, v, rfl, hz, t, wl, rfl, ht, hwl, hy, hnl, hwl3⟩ := pair_last X1.path
      have hz : PathL Y H1 zs pi := hz
      have hnl : n < ws.length := hnl
      have hwl3 : ws.length ≤ 100 := hwl3
      have hlp : zs.length = pi.length := Paired.len hz
      refine ⟨fun σ' H' => ∃ m', m' < (pi ++ [(n, ws)]).length ∧ ∃ (o1 o2 o3 : Option V) (ps' : List V) (p' : Path), σ' = [some (.ref d.p), o1, o2, o3] ∧ Kp d H H' ∧ ExA K d Y H' { e with path := p' } op ov rows dx ch ps' rs ∧ adv p' = adv e.path ∧ p'.length ≤ 1000 ∧ m' = p'.length, fun σ' H' h' => h', ?_⟩
      -- number, weights = self.path.pop()
      refine ⟨_, rfl, d.p, _, dx, _, _, rfl, X1.ins, cl, T.n_Explorer_path, ex_path _ _ _ _ _ _ _, .inl ⟨rfl, _, SqL.of X1.lst⟩, d.l, _, .ref t, rfl, rfl, X1.lst, ?_, ?_⟩
      · rw [List.length_append, List.getElem?_append_right (by simp)]
        simp
      rw [List.dropLast_concat]
      obtain ⟨X2, k2⟩ := X1.setPath hz
      have ht2 := k2.ts.tup _ _ ht
      have hwl2 : upd H1 d.l (.lst zs) wl = some (.lst (ws.map V.int)) := k2.keep _ _ hwl fun z => hy (X1.xy _ z)
      refine ⟨t, [.int (n : Nat), .ref wl], rfl, SqT.of ht2, rfl, _, _, rfl, _, _, rfl, rfl, ?_⟩
      -- for other in range(number + 1, len(weights))
      refine ⟨_, rfl, _, _, rfl, rfl, _, rfl, wl, _, rfl, .inl (SqL.of hwl2), (n : Int) + 1, ((ws.map V.int).length : Int), rfl, by rw [List.length_map]; omega, ?_⟩
      refine for_range (lo := (n : Int) + 1) (n := (((ws.map V.int).length : Int) - ((n : Int) + 1)).toNat) (fun i σ' H' => ∃ o3 : Option V, σ' = [some (.ref d.p), some (.int (n : Nat)), some (.ref wl), o3] ∧ H' = upd H1 d.l (.lst zs) ∧ ∀ j, n < j → j < n + 1 + i → ¬ 0 < wAt ws j)
        ⟨o3, rfl, rfl, fun j h1 h2 => by omega⟩ ?_ ?_
      · rintro i σ' H' hi ⟨o3, rfl, rfl, hno⟩
        rw [List.length_map] at hi
        have hil : n + 1 + i < ws.length := by omega
        have ei : (n : Int) + 1 + (i : Int) = ((n + 1 + i : Nat) : Int) := by omega
        refine ⟨_, rfl, _, rfl, wl, _, _, _, rfl, rfl, SqL.of hwl2, at_of ei (wAt_get hil), _, _, rfl, rfl, _, rfl, ?_⟩
        refine ite2 (fun hp => ?_) (fun hp => ?_)
        · have hp := of_decide_eq_true hp
          have hnx : nextPos ws n = some (n + 1 + i) := next_some (by omega) hp fun j h1 h2 => hno j h1 h2
          refine ⟨_, rfl, d.p, _, dx, _, _, rfl, X2.ins, cl, T.n_Explorer_path, ex_path _ _ _ _ _ _ _, .inl ⟨rfl, _, SqL.of X2.lst⟩, _, rfl, _, rfl, (by show 2 ≤ sizeLine; decide), fun t2 ht3 => ?_⟩
          have X3 := X2.same (same_new (o := .tup [.int ((n : Int) + 1 + (i : Int)), .ref wl]) ht3)
          rw [List.length_append, List.length_singleton] at hp1
          refine ⟨d.l, zs, _, rfl, rfl, X3.lst, (by rw [hlp, sizeLine_eq]; omega), ?_⟩
          obtain ⟨X4, k4⟩ := X3.setPath (ps' := zs ++ [.ref t2]) (p' := pi ++ [(n + 1 + i, ws)]) (pair_snoc (hz.kp (k2.trans (.new ht3)) X1.xy) ⟨t2, wl, rfl, by rw [← ei]; exact upd_same, same_new ht3 _ _ hwl2, hy, hil, hwl3⟩)
          have hk := k _ (((k1.trans k2).trans (.new ht3)).trans k4)
          rw [← ha, adv_append, hnx] at hk
          exact hk ⟨dx, ch, _, _, X4⟩
        · have hp : ¬ 0 < wAt ws (n + 1 + i) := fun z => hp (decide_eq_true z)
          refine ⟨_, rfl, rfl, fun j h1 h2 => ?_⟩
          by_cases z : j = n + 1 + i
          · rw [z]
            exact hp
          · exact hno j h1 (by omega)
      · rintro σ' H' ⟨o3, rfl, rfl, hno⟩
        rw [List.length_map] at hno
        have hnx : nextPos ws n = none := next_none fun j h1 h2 => hno j h1 (by omega)
        refine ⟨pi.length, by rw [List.length_append]; simp, _, _, _, zs, pi, rfl, k1.trans k2, X2, ?_, ?_, rfl⟩
        · rw [← ha, adv_append, hnx]
        · rw [List.length_append] at hp1
          omega
    · have hgt : ¬ (0 : Int) < (ps'.length : Int) := fun z => hgt (decide_eq_true z)
      have e0 : p' = [] := List.eq_nil_of_length_eq_zero (by omega)
      subst e0
      have hk := k H1 k1
      rw [← ha] at hk
      exact hk ⟨dx, ch, _, _, X1⟩
end
end Sam

set_option maxHeartbeats 4000000
namespace Sam
open PySem PySem.Spec PyProof.Rows L2
def spBegin (K : PySem.W.Frag) : Sp := fun vs H Q _ => ∃ (d : Dc) (Y : Addr → Prop) (e : ES) (rows : List (Outcome × Rat)), vs = [.ref d.p] ∧ ExAt K d Y H e false false rows ∧ e.path.length ≤ 1000 ∧ (rows ≠ [] → adv e.path ≠ none → rows.length ≠ 20000) ∧
  ∀ H', Kp d H H' → (∀ p1, ((rows = [] ∧ p1 = e.path) ∨ (rows ≠ [] ∧ adv e.path = some p1)) → ExAt K d Y H' ⟨p1, 0, 1⟩ true false rows → Q (.bl true) H') ∧
    (rows ≠ [] → adv e.path = none → ExAt K d Y H' ⟨[], e.at_, e.ch⟩ false true rows → Q (.bl false) H')
section
variable {K : PySem.W.Frag} {d : Dc} {Y : Addr → Prop} {H : Hp} {e : ES} {op ov : Bool} {rows : List (Outcome × Rat)} {dx : Addr} {ch : V} {ps rs : List V}
/-- the instance's plain fields change -/
theorem ExA.setIns (X : ExA K d Y H e op ov rows dx ch ps rs) {at_ : Nat} {ch' : V} {q : Rat} {op' ov' : Bool} (hf : Fr K H ch' q) :
    ExA K d Y (L2.upd H d.p (.ins (CE K) dx (exF d.l at_ ch' op' ov' rows.length d.rw))) ⟨e.path, at_, q⟩ op' ov' rows dx ch' ps rs ∧ Kp d H (L2.upd H d.p (.ins (CE K) dx (exF d.l at_ ch' op' ov' rows.length d.rw))) := by
  have k2 := Kp.cell (d := d) (u := .ins (CE K) dx (exF d.l at_ ch' op' ov' rows.length d.rw)) X.ins (.inl rfl) (ts_ins X.ins)
  refine ⟨⟨upd_same, hf.ts k2.ts, by rw [upd_ne X.pl.symm]; exact X.lst, X.path.kp k2 X.xy, by rw [upd_ne X.pr.symm]; exact X.rws, X.rowl.ts k2.ts, X.ne, X.xy, fun b hb => ?_⟩, k2⟩
  by_cases z : b = d.p
  · rw [z, upd_same]
    exact fun q => nomatch q
  · rw [upd_ne z]
    exact X.yd b hb
end
section
variable {P : Program} {w : World} {K : PySem.W.Frag} {mg : Str → Option Value} {base : Heap}
theorem ok_begin (T : Tx K mg) : CalM P w K mg base 2 (CE K) "begin" ["self"] (spBegin K) := by
  obtain ⟨fd, F⟩ := T.d_Explorer_begin
  refine ⟨T.c_Explorer, _, fd, T.m_Explorer_begin, F.binds (ps := ["self"]) fun _ _ _ _ _ _ us hl => match us, hl with | [_], _ => rfl, F.ok sc_Explorer_begin (fun vs H Q E h => ?_) (fun cdv A outer s H vs Q E hr h => ?_)⟩
  · obtain ⟨d, Y, e, rows, rfl, _⟩ := h
    rfl
  · obtain ⟨d, Y, e, rows, rfl, ⟨dx, ch, ps, rs, X⟩, hpl, hm, k⟩ := h
    have cl := T.c_Explorer
    have nd := sc_Explorer_begin.nd
    obtain ⟨tk, gMR⟩ := T.i_MOST_RUNS
    refine ⟨_, pss_cons (ps_if (pt_val (pe_fld (pv 0) rfl)) pss_never pss_nil) (pss_cons (ps_if (pt_val (pe_fld (pv 0) rfl)) pss_never pss_nil)
      (C8.pss_cut (ps_if (pt_cmpR op_gt (pe_fld (pv 0) rfl) pe_int (nomark _))
        (pss_cons (ps_set (i := 1) nd rfl (.inl rfl) (pe_callTy call_list_of (by rfl) T.f_list (by decide +kernel) (pa_cons (pe_fld (pv 0) rfl) pa_nil)))
        (pss_cons (ps_if (pt_not (pt_val (pe_m0 (pv 0) (ok_advance T) hr)))
          (pss_cons (ps_fld (pv 0) pe_bl rfl) (pss_one (ps_ret pe_bl))) pss_nil)
        (pss_one (ps_if (pt_cmpR op_eq (pe_fld (pv 0) rfl) (pe_glob rfl gMR (v := .int 20000) ⟨_, rfl⟩) (nomark _)) pss_never pss_nil)))) pss_nil)
      (pss_cons (ps_fld (pv 0) pe_bl rfl) (pss_cons (ps_fld (pv 0) pe_int rfl) (pss_cons (ps_fld (pv 0) (pe_glob rfl T.g_ONE_ratios (v := .ref _) rfl) rfl) (pss_one (ps_ret pe_bl))))))), ?_⟩
    refine ⟨_, rfl, d.p, _, dx, _, _, rfl, X.ins, cl, T.n_Explorer_is_open, ex_op _ _ _ _ _ _ _, false, rfl, ?_⟩
    refine iteF ?_
    refine ⟨_, rfl, d.p, _, dx, _, _, rfl, X.ins, cl, T.n_Explorer_is_over, ex_ov _ _ _ _ _ _ _, false, rfl, ?_⟩
    refine iteF ?_
    refine ⟨fun σ H1 => ∃ (o1 : Option V) (p1 : Path), σ = [some (.ref d.p), o1] ∧ Kp d H H1 ∧ ExAt K d Y H1 { e with path := p1 } false false rows ∧ ((rows = [] ∧ p1 = e.path) ∨ (rows ≠ [] ∧ adv e.path = some p1)), ?_, ?_⟩
    · refine ⟨_, rfl, d.p, _, dx, _, _, rfl, X.ins, cl, T.n_Explorer_many, ex_many _ _ _ _ _ _ _, _, _, rfl, rfl, _, rfl, ?_⟩
      refine ite2 (fun hgt => ?_) (fun hgt => ?_)
      · have hgt := of_decide_eq_true hgt
        have hr0 : rows ≠ [] := fun z => by rw [z] at hgt; exact absurd hgt (by decide)
        -- kept = list(self.path)
        refine ⟨_, rfl, d.p, _, dx, _, _, rfl, X.ins, cl, T.n_Explorer_path, ex_path _ _ _ _ _ _ _, d.l, ps, rfl, .inl (SqL.of X.lst), fun kp hkp => ?_⟩
        have X1 := X.same (same_new (o := .lst ps) hkp)
        -- if not self.advance()
        refine ⟨_, rfl, d.p, dx, _, rfl, X1.ins, ex_no _ _ _ _ _ _ _ _ (by decide +kernel), d, Y, e, false, false, rows, rfl, ⟨dx, ch, ps, rs, X1⟩, hpl, fun H2 k2 => ?_⟩
        cases ea : adv e.path with
        | some p1 =>
          rintro ⟨dx2, ch2, ps2, rs2, X2⟩
          refine ⟨true, rfl, ?_⟩
          refine iteF ?_
          refine ⟨_, rfl, d.p, _, dx2, _, _, rfl, X2.ins, cl, T.n_Explorer_many, ex_many _ _ _ _ _ _ _, rfl, _, rfl, ?_⟩
          have e0 : decide (V.int (rows.length : Int) = V.int 20000) = false := decide_eq_false fun q => by
            injection q with q
            exact hm hr0 (by rw [ea]; exact fun z => nomatch z) (by omega)
          show if decide (V.int (rows.length : Int) = V.int 20000) = true then _ else _
          rw [e0]
          refine iteF ?_
          exact ⟨_, p1, rfl, (Kp.new hkp).trans k2, ⟨dx2, ch2, ps2, rs2, X2⟩, .inr ⟨hr0, rfl⟩⟩
        | none =>
          rintro ⟨dx2, ch2, ps2, rs2, X2⟩
          refine ⟨false, rfl, ?_⟩
          refine iteT ?_
          refine ⟨_, rfl, d.p, _, dx2, _, rfl, X2.ins, cl, T.n_Explorer_is_over, (by show 7 < 1000; decide), ?_⟩
          rw [ex_pov]
          obtain ⟨X3, k3⟩ := X2.setIns (at_ := e.at_) (q := e.ch) (op' := false) (ov' := true) X2.fr
          exact (k _ (((Kp.new hkp).trans k2).trans k3)).2 hr0 ea ⟨dx2, ch2, ps2, rs2, X3⟩
      · have hr0 : rows = [] := List.eq_nil_of_length_eq_zero (Decidable.byContradiction fun z => hgt (decide_eq_true (by omega)))
        exact ⟨_, e.path, rfl, Kp.refl H, ⟨dx, ch, ps, rs, X⟩, .inl ⟨hr0, rfl⟩⟩
    · clear X
      rintro σ H1 ⟨o1, p1, rfl, k1, ⟨dx, ch, ps', rs, X1⟩, hp1⟩
      refine ⟨_, rfl, d.p, _, dx, _, rfl, X1.ins, cl, T.n_Explorer_is_open, (by show 7 < 1000; decide), ?_⟩
      rw [ex_pop]
      refine ⟨_, rfl, d.p, _, dx, _, rfl, upd_same, cl, T.n_Explorer_at, (by show 7 < 1000; decide), ?_⟩
      rw [ex_pat, upd_upd]
      refine ⟨_, rfl, d.p, _, dx, _, rfl, upd_same, cl, T.n_Explorer_chance, (by show 7 < 1000; decide), ?_⟩
      rw [ex_pch, upd_upd]
      obtain ⟨X3, k3⟩ := X1.setIns (at_ := 0) (q := 1) (op' := true) (ov' := false) (fr_one T H1)
      exact (k _ (k1.trans k3)).1 p1 hp1 ⟨dx, _, ps', rs, X3⟩
end
end Sam

set_option maxHeartbeats 4000000
namespace Sam
open PySem PySem.Spec PyProof.Rows L2
/-! ### rules of our own -/
section
variable {X : Cx} {k j i : Nat} {x y : Str} {C : Addr} {ps : List Str} {sp : Sp} {e o : Expr} {es : List Expr} {t : TA} {p pos : Pos}
/-- the i-th slot holds the class at C: it is made -/
def tMakeL (i : Nat) (C : Addr) (sp : Sp) (t : TA) : TE := fun σ H Q => σ[i]? = some (some (.ref C)) ∧ tMake C sp [] E0 t σ H Q
theorem pe_mkL (c : CalI X.prog X.w X.K X.mg X.base k x C ps sp) (hr : Room j X.A) (hN : X.N[i]? = some y) (hv : Vis X.env.scope y) (ha : PA X (e :: es) t) (hk : k + 1 ≤ j := by decide)
    (hdb : (y == ("__debug__" : Str)) = false := by decide) (hcd : (y == ("__classdict__" : Str)) = false := by decide)
    (he : starEach (e :: es) X.env = (false, eval e X.env) :: starEach es X.env := by rfl) (hpl : (backTo pos (starEach es X.env)).any (·.1) = false := by rfl) :
    PE X (.Call (.Name y p) (e :: es) [] pos) (tMakeL i C sp t) := by
  refine ⟨fun pins s σ H Q I h => ?_⟩
  obtain ⟨hs, ht⟩ := h
  obtain ⟨f, fd, M, b, G⟩ := c.ex
  refine wpAny_Call_Name_kw (thn ((pe_var (pos := p) hN hv hdb hcd).run pins s σ H (fun v H1 => v = .ref C ∧ H1 = H) I ⟨.ref C, hs, rfl, rfl⟩) fun u s1 ⟨v, H1, I1, r1, q1⟩ => ?_)
  obtain ⟨rfl, rfl⟩ := q1
  cases r1
  exact PySem.W.callWith_K (h₀ := X.base) I.ok.mod.kin M.kp (thn (ha.run pos pins s1 σ _ _ I1 ht) fun us s2 ⟨vs, H2, I2, r, q⟩ => ⟨I2.kIn, run_make M G (hr.mono hk) b .nil pass0 I2 r q⟩) he hpl
/-- xs[i], xs a list, for xs[i] op= .. -/
theorem pg_listK (K : PySem.W.Frag) (hK : X.K = K) : PGet X (rIxL K) := by
  subst hK
  intro pins s σ H o i ov iv Q I ro ri h
  obtain ⟨p, xs, i, z, rfl, rfl, hq, he, q⟩ := h
  cases ro
  obtain ⟨t, rfl⟩ := ri
  obtain ⟨its, r, pl, hz⟩ := I.list hq
  obtain ⟨j, h1, h2, h3, h4, h5⟩ := atI_get he
  obtain ⟨w, ew, rw'⟩ := r.get h2
  have hl := r.length
  have hn := line63
  by_cases h0 : 0 ≤ i
  · have hj : i.toNat = j := Option.some.inj ((seqIndex_of h0 h5).symm.trans h1)
    exact wpAny_getItem_list pl.isList h0 (by omega) (by rw [hj]; simpa using ew) ⟨z, H, I, rw', q⟩
  · have hj : (i + (its.toArray.size : Int)).toNat = j := by
      have e1 := Option.some.inj ((seqIndex_neg (by omega) h4).symm.trans h1)
      rw [List.size_toArray, ← hl]
      exact e1
    exact wpAny_getItem_list_neg pl.isList (by omega) (by rw [List.size_toArray] <;> omega) (by omega) (by rw [hj]; simpa using ew) ⟨z, H, I, rw', q⟩
end
/-! ### sorted(a list of data) -/
def rSortD (K : PySem.W.Frag) : List V → Hp → VK → Prop := fun vs H Q => ∃ (a : Addr) (β : Type) (bs : List β) (val : β → V) (enc : β → PyData), vs = [V.ref a] ∧ SqL K H a (bs.map val) ∧ (∀ b ∈ bs, Dp K H (val b) (enc b)) ∧ PySem.W.AllAlike (bs.map enc) ∧ PySem.W.Sortable (bs.map enc) ∧ (∀ b ∈ bs, (enc b).depth ≤ 8) ∧
  ∀ p : Addr, H p = none → Q (.ref p) (upd H p (.lst ((bs.mergeSort (PySem.W.dataLe false enc)).map val)))
theorem each_vals {β : Type} {val : β → V} : ∀ {us : List Value} {bs : List β}, Vals (bs.map val) us → PySem.W.EachIs (fun u b => RelV (val b) u) us bs
  | [], [], _ => .nil
  | u :: us, b :: bs, h => by
    rw [List.map_cons] at h
    cases h with
    | cons r t => exact .cons r (each_vals t)
  | [], b :: bs, h => by rw [List.map_cons] at h; cases h
  | u :: us, [], h => by cases h
theorem vals_each {β : Type} {val : β → V} : ∀ {us : List Value} {bs : List β}, PySem.W.EachIs (fun u b => RelV (val b) u) us bs → Vals (bs.map val) us
  | _, _, .nil => .nil
  | _, _, .cons r t => .cons r (vals_each t)
theorem each_and {α β : Type} {R S : α → β → Prop} : ∀ {as : List α} {bs : List β}, PySem.W.EachIs R as bs → (∀ a b, b ∈ bs → R a b → S a b) → PySem.W.EachIs S as bs
  | _, _, .nil, _ => .nil
  | _, _, .cons r t, h => .cons (h _ _ (List.mem_cons_self ..) r) (each_and t fun a b hb => h a b (List.mem_cons_of_mem _ hb))
theorem cr_sortD {X : Cx} (hu : X.A.units + 64 < cLine) : CallR X (.builtin "sorted") (rSortD X.K) := by
  intro pins s σ H vs us Q I r h
  obtain ⟨a, β, bs, val, enc, rfl, hs, hd, hal, hk, hdp, q⟩ := h
  obtain ⟨its, rv, hl, hz⟩ := I.list hs
  rw [Vals.ref1 r]
  have e := each_vals rv
  have hz' : bs.length ≤ sizeLine := by rw [List.length_map] at hz; exact hz
  refine PySem.W.sorted_data hl.isList e (each_and e fun u b hb ru => Dp.reads I (enc b) _ u (hd b hb) ru) hal hk hz' (fun b hb => by have := hdp b hb; omega) fun out ho eo => ?_
  obtain ⟨ep, he'⟩ := PyProof.Rows.sortedAll_at s.heap its (List.toArray out)
  have hlen : ((bs.mergeSort (PySem.W.dataLe false enc)).map val).length ≤ sizeLine := by
    rw [List.length_map, List.length_mergeSort]
    exact hz'
  exact ⟨.ref _, upd H (s.heap.objs.size + 1) (.lst ((bs.mergeSort (PySem.W.dataLe false enc)).map val)), I.laid (t' := s.toks) (fun _ _ => PyProof.Rows.sortedAll_old) (Nat.le_succ _) ⟨hlen, out, ep, vals_each eo, he'⟩, rfl, q _ (I.hok.fresh (Nat.le_succ _))⟩
/-! ### a dict whose keys may be None -/
/-- at a: that dict -/
def dN (P : Program) (w : World) (a : Addr) (kvs : List (Option Key × V)) : HO := .ext fun h => kvs.length ≤ sizeLine ∧ (a == sysModules) = false ∧ ∃ vs, KV kvs vs ∧ h.DictOf (noneKind P w) a vs
def kO : Option Key → V
  | none => .non
  | some k => kV k
theorem kO_is {P : Program} {w : World} {k : Option Key} {u : Value} (r : RelV (kO k) u) : (noneKind P w).is k u = true := by
  cases k with
  | none =>
    cases r
    rfl
  | some k => exact kV_is (P := P) (w := w) r
section
variable {P : Program} {w : World} {H : Hp} {h : Heap} {a : Addr} {kvs : List (Option Key × V)}
theorem dN_of (ok : HOk P w H h) (e : H a = some (dN P w a kvs)) : kvs.length ≤ sizeLine ∧ (a == sysModules) = false ∧ ∃ vs, KV kvs vs ∧ h.DictOf (noneKind P w) a vs := by
  have z : ObjOk P w H h a (dN P w a kvs) := ok a _ e
  exact z.1
theorem dN_new {vs : List (Option Key × Value)} (z : kvs.length ≤ sizeLine) (hd : (a == sysModules) = false) (rel : KV kvs vs) (dd : h.DictOf (noneKind P w) a vs) : ObjOk P w H h a (dN P w a kvs) := by
  refine ⟨⟨z, hd, vs, rel, dd⟩, let ⟨o, _, _, e, _⟩ := dd; ⟨o, e⟩, fun h1 h2 q st => ?_⟩
  obtain ⟨z, hd, vs, rel, o, es, ep, e, r⟩ := q
  exact ⟨z, hd, vs, rel, o, es, ep, st o e, r⟩
end
section
variable {X : Cx} {pins : List (Addr × Obj)} {σ : L2.St} {H : Hp} {s : Shared} {E : Value → Shared → Prop}
theorem dN_dictSet {D : Addr} {kvs : List (Option Key × V)} {k : Option Key} {v : V} {u r : Value} {Q : Unit → Shared → Prop} (I : Inv X pins σ H s) (hD : H D = some (dN X.prog X.w D kvs)) (hz : kvs.length < sizeLine)
    (ry : RelV (kO k) u) (rv : RelV v r) (h : ∀ s', Inv X pins σ (upd H D (dN X.prog X.w D (putK kvs k v))) s' → Q () s') : wpAny (model X.prog X.w) X.A (dictSet D u r) Q E s := by
  obtain ⟨z, hd, vs, rel, dd⟩ := dN_of I.hok hD
  refine wpAny_dictSet_pairs (hsz := by rw [← rel.length]; exact z) (kO_is ry) dd fun h' dd' hs => h _ ?_
  exact d_write I (by rw [hD]; exact True.intro) hs (let ⟨q, _, _, hq, _⟩ := dd'; ⟨q, hq⟩) (dN_new (by have := length_putK kvs k v; omega) hd (rel.put k rv) dd')
/-- d[k] = v -/
def rSetN (P : Program) (w : World) : TSet := fun o i v H Q => ∃ a kvs k, o = .ref a ∧ i = kO k ∧ H a = some (dN P w a kvs) ∧ kvs.length < sizeLine ∧ Q (upd H a (dN P w a (putK kvs k v)))
theorem set_dN : PSet X (rSetN X.prog X.w) := by
  intro pins s σ H o i v ov iv u Q I ro ri rv h
  obtain ⟨a, kvs, k, rfl, rfl, hD, hz, q⟩ := h
  cases (show ov = Value.ref a from ro)
  obtain ⟨z, hd, vs, rel, dd⟩ := dN_of I.hok hD
  refine wpAny_setItem_pairs (hsz := by rw [← rel.length]; exact z) (kO_is ri) dd fun h' dd' hs => ⟨_, ?_, q⟩
  exact d_write I (by rw [hD]; exact True.intro) hs (let ⟨q, _, _, hq, _⟩ := dd'; ⟨q, hq⟩) (dN_new (by have := length_putK kvs k v; omega) hd (rel.put k rv) dd')
/-- d[k] -/
def rIxN (P : Program) (w : World) : R2 := fun x y H Q => ∃ a kvs k v, x = .ref a ∧ y = kO k ∧ H a = some (dN P w a kvs) ∧ valV kvs k = some v ∧ Q v H
theorem ix_dN (P : Program) (w : World) (hP : X.prog = P := by rfl) (hw : X.w = w := by rfl) : IxR X (rIxN P w) := by
  subst hP hw
  intro value slice pins s σ H x y v u Q I rx ry h hs
  obtain ⟨a, kvs, k, z, rfl, rfl, hD, hv, q⟩ := h
  obtain rfl : v = Value.ref a := rx
  obtain ⟨_, hd, vs, rel, dd⟩ := dN_of I.hok hD
  obtain ⟨w', hw, rw'⟩ := RelO.some_of (v := z) (o := valueAt vs k) (by rw [← hv]; exact rel.val k)
  exact tail_any dd.typeIs slot_dict_getitem.lookup (wpAny_getItem_of (kO_is ry) dd.mapOf hw ⟨z, H, I.tok _, rw', q⟩) hs
/-- {k: v for target in iter}, keys that may be None -/
def tDcN (P : Program) (w : World) (wi : TI) (g : TG) (tk tv : TE) (vs : List Nat) : TE := fun σ H Q => wi σ H fun J H1 => ∀ D, H1 D = none → ∃ W : Nat → Nat → Hp → Prop, (∃ m, W 0 m (upd H1 D (dN P w D []))) ∧ ∀ i m H, W i m H →
  (J.stop i H ∧ Q (.ref D) H) ∨ (J.go i H ∧ ∃ Nx : Hp → Prop, (∀ H', Nx H' → ∃ m', m' < m ∧ W (i + 1) m' H') ∧ ∀ x H', J.yld i H x H' → g x (wipe σ vs) H' fun σ2 H2 => wipe σ2 vs = wipe σ vs ∧
    tk σ2 H2 fun y H4 => tv σ2 H4 fun z H5 => ∃ kvs k, y = kO k ∧ H5 D = some (dN P w D kvs) ∧ kvs.length < sizeLine ∧ Nx (upd H5 D (dN P w D (putK kvs k z))))
theorem pe_dcN {kx vx tg iter : Expr} {scope : Scope} {own : List (Str × Nat)} {pos : Pos} {wi : TI} {g : TG} {tk tv : TE} (hcalm : X.calm = true) (nd : X.N.Nodup) (hit : PI X tg iter wi) (ok : BlkOk X.N X.env.scope scope own)
    (hg : ∀ (s : Shared) (H : Hp) (C : Addr) (cl : List (Str × Addr)) (fp : List Addr), PG (X.blk s H scope (compEnvC scope cl C X.env) fp) tg g)
    (hk : ∀ (s : Shared) (H : Hp) (C : Addr) (cl : List (Str × Addr)) (fp : List Addr), PE (X.blk s H scope (compEnvC scope cl C X.env) fp) kx tk)
    (hv : ∀ (s : Shared) (H : Hp) (C : Addr) (cl : List (Str × Addr)) (fp : List Addr), PE (X.blk s H scope (compEnvC scope cl C X.env) fp) vx tv) (hs : ∀ x, foldedSetIterable iter X.env x = pure x := by intro _; rfl) :
    PE X (.DictComp kx vx [⟨tg, iter, [], 0⟩] scope pos) (tDcN X.prog X.w wi g tk tv (own.map (·.2))) := by
  refine ⟨fun pins s σ H Q I h => ?_⟩
  rw [arm_eval_DictComp]
  have clo : ∀ y ∈ scope.names, y.2 = .free → ∃ c, X.env.cells.lookup y.1 = some c := fun y hy e => (ok.free y hy e).elim (fun q => I.ok.has _ (.inl q)) fun q => I.ok.has _ (.inr q)
  refine wpAny_comprehension_free (use := none) rfl hs (closure_ok clo) ok.kind (fun y hy e => by rw [ok.uniq y hy, e])
    (thn (hit.run pins s σ H _ I h) fun xv s1 hx => thn hx fun itv s2 h2 => ?_)
  obtain ⟨it, fp, tn, J, H2, rfl, I2, T, st2, f2, q⟩ := h2
  refine wpAny_newObj_type (newEnv_comp ?_)
  obtain ⟨W, ⟨m0, w0⟩, turn⟩ := q s2.heap.objs.size (I2.hok.fresh (Nat.le_refl _))
  -- the new dict
  generalize hs3 : ({ s2 with heap := s2.heap.push { cls := .type "dict", data := .dict #[] } } : Shared) = s3
  have h3 : s3.heap = s2.heap.push { cls := .type "dict", data := .dict #[] } := by rw [← hs3]
  have I3 : Inv X pins σ (upd H2 s2.heap.objs.size (dN X.prog X.w s2.heap.objs.size [])) s3 := by
    rw [← hs3]
    exact I2.laid (t' := s2.toks) (fun b o e => Heap.get?_push_of_some _ e) (Nat.le_refl _) (dN_new (Nat.zero_le _) (beq_eq_false_iff_ne.mpr (Ne.symm (Nat.ne_of_lt I2.big))) .nil (Heap.DictOf.new s2.heap))
  have st3 : tn 0 s3.heap := T.keep _ _ _ st2 fun b _ o e => by
    rw [h3]
    exact Heap.get?_push_of_some _ e
  have f3 : ∀ b ∈ fp, FpOk X pins (upd H2 s2.heap.objs.size (dN X.prog X.w s2.heap.objs.size [])) b ∧ b < s3.heap.objs.size := fun b hb => by
    obtain ⟨o, e, _⟩ := T.obj _ _ st2 b hb
    have lt := Heap.lt_size e
    refine ⟨⟨?_, (f2 b hb).2⟩, by rw [h3, Heap.size_push]; exact Nat.lt_succ_of_lt lt⟩
    rw [upd_ne (Nat.ne_of_lt lt)]
    exact (f2 b hb).1
  generalize s2.heap.objs.size = D at turn w0 I3 f3 ⊢
  generalize upd H2 D (dN X.prog X.w D []) = H3 at I3 w0 f3
  -- the block's own names
  have I4 := block_start I3 ok nd f3
  have rg := hg s3 H3 s3.heap.objs.size (cellsFrom (s3.heap.objs.size + 1) scope.names (cloFrom X.env.cells scope.names [])) fp
  have rk := hk s3 H3 s3.heap.objs.size (cellsFrom (s3.heap.objs.size + 1) scope.names (cloFrom X.env.cells scope.names [])) fp
  have rv := hv s3 H3 s3.heap.objs.size (cellsFrom (s3.heap.objs.size + 1) scope.names (cloFrom X.env.cells scope.names [])) fp
  show codeAny _ _ (.compStart (.DictComp kx vx [⟨tg, iter, [], 0⟩] scope pos) 0 (.ref it) (.ref D) (compEnvC scope (cellsFrom (s3.heap.objs.size + 1) scope.names (cloFrom X.env.cells scope.names [])) s3.heap.objs.size X.env))
    (compPost (model X.prog X.w) X.A X.xe none (L2.EP X pins σ Q) (.ref D) s3.heap.objs.size) { s3 with heap := pushCells (s3.heap.push { cls := .type "dict", data := .dict #[] }) scope.names }
  generalize hce : compEnvC scope (cellsFrom (s3.heap.objs.size + 1) scope.names (cloFrom X.env.cells scope.names [])) s3.heap.objs.size X.env = ce at I4 rg rk rv ⊢
  have cL : ce.locals = s3.heap.objs.size := by subst hce; rfl
  generalize hs4 : ({ s3 with heap := pushCells (s3.heap.push { cls := .type "dict", data := .dict #[] }) scope.names } : Shared) = s4 at I4 ⊢
  have st4 : tn 0 s4.heap := T.keep _ _ _ st3 fun b _ o e => by rw [← hs4]; exact pushCells_keeps _ _ _ _ (Heap.get?_push_of_some _ e)
  have foot : ∀ {σ' : L2.St} {H' : Hp} {s' : Shared}, Inv (X.blk s3 H3 scope ce fp) [] σ' H' s' → (∀ b ∈ fp, H' b = none) → ∀ b ∈ fp, FpOk (X.blk s3 H3 scope ce fp) [] H' b := fun J' hn b hb =>
    ⟨hn b hb, (J'.ok.exf b hb).1, J'.ok.exfs b hb, .inl hb, fun x c e => (J'.ok.exf b hb).2 x c e, fun p hp => nomatch (show p ∈ ([] : List (Addr × Obj)) from hp)⟩
  have loop : codeAny (model X.prog X.w) X.A (.compLoop (.DictComp kx vx [⟨tg, iter, [], 0⟩] scope pos) 0 (.ref it) (.ref D) ce) (compPost (model X.prog X.w) X.A X.xe none (L2.EP X pins σ Q) (.ref D) s3.heap.objs.size) s4 := by
    refine compLoop_anyD (fun n s' => ∃ i H', Inv (X.blk s3 H3 scope ce fp) [] (wipe σ (own.map (·.2))) H' s' ∧ tn i s'.heap ∧ (∀ b ∈ fp, H' b = none) ∧ W i n H') ?_ m0 ⟨0, H3, I4, st4, fun b hb => (f3 b hb).1.1, w0⟩
    rintro n s5 ⟨i, H5, I5, st5, n5, w5⟩
    rcases turn i n H5 w5 with ⟨stop, qq⟩ | ⟨go, Nx, hNx, step⟩
    · refine thnF (T.done (X.blk s3 H3 scope ce fp) rfl rfl rfl hcalm i [] s5 _ H5 (fun _ _ => False) I5 (foot I5 n5) st5 stop) fun r s6 ⟨hr, I6⟩ => ?_
      subst hr
      have I7 : Inv X pins σ H5 s6 := I3.call' (ch := fp) I6.os I6.base I6.hok I6.bare fun b hb => ⟨(f3 b hb).1.2.2.2.1, (f3 b hb).1.2.1, (f3 b hb).1.2.2.2.2.1, (f3 b hb).1.2.2.2.2.2⟩
      have nC : H5 s3.heap.objs.size = none := by
        have z : H5 ce.locals = none := I6.free
        rwa [cL] at z
      obtain ⟨m, hn, _⟩ := I6.loc
      have hn2 : s6.heap.Ns ce.locals m := hn
      rw [cL] at hn2
      obtain ⟨g0, g1, g2, g3, g4, g5⟩ := I3.fpOk (Nat.le_refl _) nC
      exact ⟨m, hn2, fun h'' sb => ⟨.ref D, H5, I7.turned (t' := s6.toks) (fun b o hb e => (sb.2 b hb).trans e) g0 g1 g3 g4 g5, rfl, qq⟩⟩
    · refine thnF (T.item (X.blk s3 H3 scope ce fp) rfl rfl rfl hcalm i [] s5 _ H5 (fun _ _ => False) I5 (foot I5 n5) st5 go) fun r s6 ⟨u, hr, h6⟩ => ?_
      subst hr
      refine thnF h6 fun _ s7 ⟨x, H7, I7, r7, y7, st7, n7⟩ => ?_
      refine thnF (rg.run _ s7 _ H7 x u _ (I7.pinned (foot I7 n7) (T.obj _ _ st7)) r7 (step x H7 y7)) fun _ s8 ⟨σ8, H8, I8, hw8, q8⟩ => ?_
      refine thnF ((pts_nil (X := X.blk s3 H3 scope ce fp)).run _ s8 σ8 H8 (fun b H9 => b = true ∧ H9 = H8) I8 ⟨rfl, rfl⟩) fun b s9 ⟨H9, I9, e9⟩ => ?_
      obtain ⟨rfl, rfl⟩ := e9
      rw [if_pos rfl]
      refine thnF (rk.run _ s9 σ8 _ _ I9 q8) fun z s10 ⟨yk, H10, I10, r10, q10⟩ => ?_
      refine thnF (rv.run _ s10 σ8 H10 _ I10 q10) fun z2 s11 ⟨yv, H11, I11, r11, kvs, kk, ek, hD11, hz11, nx⟩ => ?_
      subst ek
      refine dN_dictSet (X := X.blk s3 H3 scope ce fp) I11 hD11 hz11 r10 r11 fun s12 I12 => ?_
      obtain ⟨m', hm, w'⟩ := hNx _ nx
      have pin' : ∀ b ∈ fp, ∀ o, s7.heap.get? b = some o → s12.heap.get? b = some o ∧ upd H11 D (dN X.prog X.w D (putK kvs kk yv)) b = none := fun b hb o e =>
        let z := I12.pin (b, o) (List.mem_append_right _ (List.mem_append_right _ (mem_pinsAt hb e)))
        ⟨z.1, z.2.1⟩
      refine ⟨m', hm, i + 1, _, (I12.unpinned (pins := [])).weak (by rw [← hw8, wipe_length]) (fun j v e => ?_), T.keep _ _ _ st7 fun b hb o e => (pin' b hb o e).1, fun b hb => ?_, w'⟩
      · rw [← hw8] at e
        exact (wipe_some e).1
      · obtain ⟨o, e, _⟩ := T.obj _ _ st7 b hb
        exact (pin' b hb o e).2
  exact codeAny_compStart_dict loop (T.self X.A 0 _ _ _ st4 loop)
/-- a walk over a list that stays, any turn -/
theorem it_list {K : PySem.W.Frag} {a : Addr} {xs : List V} {H0 : Hp} {Qd : Hp → Prop} {B : Nat → V → Hp → (Hp → Prop) → Prop} (Pv : Nat → Hp → Prop) (h0 : Pv 0 H0) (hl : ∀ i H, i ≤ xs.length → Pv i H → SqL K H a xs)
    (hs : ∀ i x H, xs[i]? = some x → Pv i H → B i x H (Pv (i + 1))) (hd : ∀ H, Pv xs.length H → Qd H) :
    ∃ W : Nat → Nat → Hp → Prop, (∃ m, W 0 m H0) ∧ ∀ i m H, W i m H → ((Itl K a).stop i H ∧ Qd H) ∨ ((Itl K a).go i H ∧ ∃ Nx : Hp → Prop, (∀ H', Nx H' → ∃ m', m' < m ∧ W (i + 1) m' H') ∧ ∀ x H', (Itl K a).yld i H x H' → B i x H' Nx) := by
  refine ⟨fun i m H => m = xs.length - i ∧ i ≤ xs.length ∧ Pv i H, ⟨xs.length, rfl, Nat.zero_le _, h0⟩, fun i m H ⟨e, hi, p⟩ => ?_⟩
  subst e
  by_cases lt : i < xs.length
  · refine .inr ⟨⟨xs, xs[i], hl i H hi p, List.getElem?_eq_getElem lt⟩, Pv (i + 1), fun H' q => ⟨_, by omega, rfl, lt, q⟩, fun x H' y => ?_⟩
    have y2 := y.2 xs (hl i H hi p)
    rw [y.1]
    exact hs i x H y2 p
  · have e : i = xs.length := by omega
    subst e
    exact .inl ⟨⟨xs, hl _ H hi p, Nat.le_refl _⟩, hd H p⟩
end
end Sam

set_option maxHeartbeats 4000000
namespace Sam
open PySem PySem.Spec PyProof.Rows L2
/-! ### the order of the items -/
def itD (x : Itm) : PyData := .tuple [.str x.key, .str x.grp, .int x.w, .int x.am]
def itE (x : Itm) : PyData := .tuple [.str x.key, .str x.grp, .int x.w, .int x.am, .int x.a]
def leE : Itm → Itm → Bool := PySem.W.dataLe false itE
def srtI (l : List Itm) : List Itm := l.mergeSort leE
theorem leE_trans (a b c : Itm) (h1 : leE a b = true) (h2 : leE b c = true) : leE a c = true := (PySem.W.sortLe_total (listOrd itemOrd) false fun b => PySem.W.keyToks (itE b)).trans a b c h1 h2
theorem leE_total (a b : Itm) : (leE a b || leE b a) = true := by
  rcases (PySem.W.sortLe_total (listOrd itemOrd) false fun b => PySem.W.keyToks (itE b)).total a b with h | h
  · rw [show leE a b = true from h, Bool.true_or]
  · rw [show leE b a = true from h, Bool.or_true]
theorem leE_anti (a b : Itm) (h1 : leE a b = true) (h2 : leE b a = true) : a = b := by
  have h1' : (!PyProof.Rows.lexLt itemOrd (PySem.W.keyToks (itE b)) (PySem.W.keyToks (itE a))) = true := h1
  have h2' : (!PyProof.Rows.lexLt itemOrd (PySem.W.keyToks (itE a)) (PySem.W.keyToks (itE b))) = true := h2
  rw [Bool.not_eq_true'] at h1' h2'
  have e := lex_total (O := itemOrd) _ _ h2' h1'
  obtain ⟨aa, k, g, w, m⟩ := a
  obtain ⟨aa', k', g', w', m'⟩ := b
  simp only [itE, PySem.W.keyToks, PySem.W.keyToksAll, List.cons_append, List.nil_append, List.cons.injEq, Sum.inl.injEq, Sum.inr.injEq, and_true, true_and] at e
  obtain ⟨e1, e2, e3, e4, e5⟩ := e
  rw [PySem.W.str_of_cps e1, PySem.W.str_of_cps e2, e3, e4, show aa = aa' from Int.ofNat.inj e5]
theorem srtI_pw (l : List Itm) : (srtI l).Pairwise fun a b => leE a b = true := List.pairwise_mergeSort leE_trans leE_total l
theorem srtI_ok : SrtOk srtI where
  perm := fun l => List.mergeSort_perm l leE
  same := fun l l' h => by
    refine List.Perm.eq_of_pairwise (le := fun a b => leE a b = true) (fun a b _ _ => leE_anti a b) (srtI_pw l) (srtI_pw l') ?_
    exact (List.mergeSort_perm l leE).trans (h.trans (List.mergeSort_perm l' leE).symm)
  sub := fun l r h => List.mergeSort_of_pairwise ((srtI_pw l).sublist h)
theorem key_eqv (x y : Str) : PyData.eqv (.str x) (.str y) = decide (x = y) := by
  rw [PyData.eqv]
  rfl
theorem lt_keys {x y : Itm} (h : x.key ≠ y.key) : PySem.W.dataLt (itD x) (itD y) = PySem.W.dataLt (itE x) (itE y) := by
  have e : PyData.eqv (.str x.key) (.str y.key) = false := by rw [key_eqv]; exact decide_eq_false h
  have z : ∀ xs ys : List PyData, PyProof.Rows.lexLt itemOrd (PySem.W.keyToksAll (.str x.key :: xs)) (PySem.W.keyToksAll (.str y.key :: ys)) = PySem.W.dataLt (.str x.key) (.str y.key) := fun xs ys => by
    rw [PySem.W.dataLt_cons (by rw [PySem.W.alike]), e, if_neg (by decide)]
  exact (z _ _).trans (z _ _).symm
theorem nodup_inj {l : List Itm} (h : (l.map (·.key)).Nodup) {x y : Itm} (hx : x ∈ l) (hy : y ∈ l) (e : x.key = y.key) : x = y := by
  induction l with
  | nil => cases hx
  | cons z l ih =>
    rw [List.map_cons, List.nodup_cons] at h
    rcases List.mem_cons.mp hx with hx | hx <;> rcases List.mem_cons.mp hy with hy | hy
    · rw [hx, hy]
    · exact absurd (List.mem_map.mpr ⟨y, hy, by rw [← e, hx]⟩) h.1
    · exact absurd (List.mem_map.mpr ⟨x, hx, by rw [e, hy]⟩) h.1
    · exact ih h.2 hx hy
theorem sort_items {l : List Itm} (h : (l.map (·.key)).Nodup) : l.mergeSort (PySem.W.dataLe false itD) = srtI l := by
  refine PySem.W.sort_congr fun a ha b hb => ?_
  show (!PySem.W.dataLt (itD b) (itD a)) = !PySem.W.dataLt (itE b) (itE a)
  by_cases e : b.key = a.key
  · have e2 := nodup_inj h hb ha e
    subst e2
    rw [show PySem.W.dataLt (itD b) (itD b) = false from lex_irrefl (O := itemOrd) _, show PySem.W.dataLt (itE b) (itE b) = false from lex_irrefl (O := itemOrd) _]
  · rw [lt_keys e]
theorem itD_alike (l : List Itm) : PySem.W.AllAlike (l.map itD) := PySem.W.AllAlike.of fun x y => by simp [itD, PySem.W.alike, PySem.W.alikeAll]
theorem itD_sortable (l : List Itm) : PySem.W.Sortable (l.map itD) := PySem.W.Sortable.tuples fun x => ⟨_, _, rfl⟩
theorem itD_depth (x : Itm) : (itD x).depth ≤ 8 := by simp [itD, PyData.depth, PyData.depthAll]
/-! ### items and samples in the heap -/
def ItAt (K : PySem.W.Frag) (H : Hp) (x : Itm) : Prop := SqT K H x.a [.str x.key, .str x.grp, .int x.w, .int x.am]
theorem ItAt.ts {K : PySem.W.Frag} {H H' : Hp} {x : Itm} (h : ItAt K H x) (e : Ts H H') : ItAt K H' x := e.seqT h
def itR (x : Itm) : V := .ref x.a
theorem ItAt.dp {K : PySem.W.Frag} {H : Hp} {x : Itm} (h : ItAt K H x) : Dp K H (itR x) (itD x) := .tup h (.cons (.str _) (.cons (.str _) (.cons (.int _) (.cons (.int _) .nil))))
abbrev CU (K : PySem.W.Frag) : Addr := He.ga K "Uniform"
abbrev CW (K : PySem.W.Frag) : Addr := He.ga K "Weighted"
def smC (K : PySem.W.Frag) (un : Bool) : Addr := bif un then CU K else CW K
def smF (un : Bool) (size : Nat) (tot : Int) (c : Addr) : List (Str × V) := [("size", .int size), (bif un then "seen" else "total", .int tot), ("kept", .ref c)]
/-- at a: the sample s, its list at c -/
structure SmA (K : PySem.W.Frag) (H : Hp) (a c dx : Addr) (s : Smp) : Prop where
  ins : H a = some (.ins (smC K s.un) dx (smF s.un s.size s.tot c))
  lst : H c = some (.lst (s.kept.map itR))
  its : ∀ x ∈ s.kept, ItAt K H x
section
variable {K : PySem.W.Frag} {H H' : Hp} {a c dx : Addr} {s : Smp}
theorem SmA.same (h : SmA K H a c dx s) (e : Same H H') : SmA K H' a c dx s := ⟨e _ _ h.ins, e _ _ h.lst, fun x hx => (h.its x hx).ts (.of_same e)⟩
theorem SmA.kp {d : Dc} (h : SmA K H a c dx s) (e : Kp d H H') (ha : ¬ d.X a) (hc : ¬ d.X c) : SmA K H' a c dx s := ⟨e.keep _ _ h.ins ha, e.keep _ _ h.lst hc, fun x hx => (h.its x hx).ts e.ts⟩
end
theorem sm_size (un : Bool) (size : Nat) (tot : Int) (c : Addr) : (smF un size tot c).lookup ("size" : Str) = some (.int size) := by cases un <;> kernel_rfl
theorem sm_kept (un : Bool) (size : Nat) (tot : Int) (c : Addr) : (smF un size tot c).lookup ("kept" : Str) = some (.ref c) := by cases un <;> kernel_rfl
theorem sm_seen (size : Nat) (tot : Int) (c : Addr) : (smF true size tot c).lookup ("seen" : Str) = some (.int tot) := by kernel_rfl
theorem sm_total (size : Nat) (tot : Int) (c : Addr) : (smF false size tot c).lookup ("total" : Str) = some (.int tot) := by kernel_rfl
theorem sm_no (un : Bool) (size : Nat) (tot : Int) (c : Addr) (m : Str) (h : (["size", "seen", "total", "kept"] : List Str).contains m = false) : (smF un size tot c).lookup m = none := by
  simp only [List.contains_eq_mem, decide_eq_false_iff_not, List.mem_cons, not_or] at h
  obtain ⟨h1, h2, h3, h4, _⟩ := h
  unfold smF
  cases un <;> simp only [cond_true, cond_false, List.lookup, beq_eq_false_iff_ne.mpr h1, beq_eq_false_iff_ne.mpr h2, beq_eq_false_iff_ne.mpr h3, beq_eq_false_iff_ne.mpr h4]
end Sam

set_option maxHeartbeats 4000000
namespace Sam
open PySem PySem.Spec PyProof.Rows L2
def spSize : Sp := fun vs H Q _ => ∃ n : Int, vs = [.int n] ∧ 1 ≤ n ∧ n ≤ 20 ∧ Q .non H
def spKeys (K : PySem.W.Frag) : Sp := fun vs H Q _ => ∃ (a b : Addr) (A B : List Itm), vs = [.ref a, .ref b] ∧ SqL K H a (A.map itR) ∧ SqL K H b (B.map itR) ∧ (∀ x ∈ A, ItAt K H x) ∧ (∀ x ∈ B, ItAt K H x) ∧ (∀ x ∈ A, ∀ y ∈ B, x.key ≠ y.key) ∧ A.length ≤ 100 ∧
  ∀ H', Same H H' → Q .non H'
/-- the keys of the first, as a dict -/
def kD (A : List Itm) (i : Nat) : List (Key × V) := ((A.take i).map fun x => x.key).foldl (fun d k => putK d (Sum.inr k) (.bl true)) []
theorem kD_succ {A : List Itm} {i : Nat} {x : Itm} (h : A[i]? = some x) : kD A (i + 1) = putK (kD A i) (Sum.inr x.key) (.bl true) := by
  unfold kD
  rw [List.take_add_one, h, Option.toList_some, List.map_append, List.foldl_append]
  rfl
theorem kD_len (A : List Itm) : ∀ i, (kD A i).length ≤ i := fun i => by
  induction i with
  | zero => exact Nat.le_refl _
  | succ i ih =>
    cases h : A[i]? with
    | none =>
      have e : kD A (i + 1) = kD A i := by
        unfold kD
        rw [List.take_add_one, h]
        simp
      rw [e]
      omega
    | some x =>
      rw [kD_succ h]
      have := length_putK (kD A i) (Sum.inr x.key) (.bl true)
      omega
theorem kD_no (A : List Itm) (k : Str) (h : ∀ x ∈ A, x.key ≠ k) : ∀ i, valV (kD A i) (Sum.inr k) = none := fun i => by
  induction i with
  | zero => rfl
  | succ i ih =>
    cases hx : A[i]? with
    | none =>
      have e : kD A (i + 1) = kD A i := by
        unfold kD
        rw [List.take_add_one, hx]
        simp
      rw [e, ih]
    | some x =>
      rw [kD_succ hx, valV_put, if_neg, ih]
      intro z
      exact h x (List.mem_of_getElem? hx) (Sum.inr.inj z).symm
theorem map_at {α β : Type} {f : α → β} {xs : List α} {i : Nat} {v : β} (h : (xs.map f)[i]? = some v) : ∃ x, xs[i]? = some x ∧ v = f x := by
  rw [List.getElem?_map] at h
  obtain ⟨x, e, q⟩ := Option.map_eq_some_iff.mp h
  exact ⟨x, e, q.symm⟩
section
variable {P : Program} {w : World} {K : PySem.W.Frag} {mg : Str → Option Value} {base : Heap}
theorem ok_check_size (T : Tx K mg) : Cal P w K mg base 1 "check_size" ["size"] spSize := by
  obtain ⟨fd, F⟩ := T.d_check_size
  refine ⟨_, fd, T.g_check_size, F.kp, F.binds (ps := ["size"]) fun _ _ _ _ _ _ us hl => match us, hl with | [_], _ => rfl, F.ok sc_check_size (fun vs H Q E h => ?_) (fun cdv A outer s H vs Q E hr h => ?_)⟩
  · obtain ⟨n, rfl, _⟩ := h
    rfl
  · obtain ⟨n, rfl, h1, h2, k⟩ := h
    obtain ⟨tk, gM⟩ := T.i_MOST_SIZE_uniform
    refine ⟨_, pss_one (ps_if (pt_not (pt_chain op_le op_le pe_int (pv 0) (pe_glob rfl gM (v := .int 20) ⟨_, rfl⟩))) pss_never pss_nil), ?_⟩
    refine ⟨_, rfl, _, _, rfl, rfl, true, ?_, ?_⟩
    · show V.bl (decide (1 ≤ n)) = _
      rw [decide_eq_true h1]
    rw [if_pos rfl]
    refine ⟨_, _, rfl, rfl, true, ?_, ?_⟩
    · show V.bl (decide (n ≤ 20)) = _
      rw [decide_eq_true h2]
    refine iteF ?_
    exact k
theorem ok_check_keys (T : Tx K mg) : Cal P w K mg base 1 "check_keys" ["first", "second"] (spKeys K) := by
  obtain ⟨fd, F⟩ := T.d_check_keys
  refine ⟨_, fd, T.g_check_keys, F.kp, F.binds (ps := ["first", "second"]) fun _ _ _ _ _ _ us hl => match us, hl with | [_, _], _ => rfl, F.ok sc_check_keys (fun vs H Q E h => ?_) (fun cdv A outer s H vs Q E hr h => ?_)⟩
  · obtain ⟨a, b, A, B, rfl, _⟩ := h
    rfl
  · obtain ⟨a, b, A, B, rfl, hA, hB, iA, iB, hd, hl, k⟩ := h
    have nd := sc_check_keys.nd
    have hu := hr.units
    refine ⟨_, pss_cons (ps_set (i := 2) nd rfl (.inr rfl) (pe_dc (own := [("item", 4)]) (g := gName 4) (tt := tYes) rfl nd (pi_list (pv 0)) (blkOk_by (N := ["first", "second", "keys", "shared", "item"]) (sc := defScope s_check_keys) (by decide +kernel))
        (fun _ _ _ _ _ => pg_name (i := 4) nd rfl (Or.inl rfl)) (fun _ _ _ _ _ => pts_nil) (fun _ _ _ _ _ => pe_ix (ixTK K rfl) (pv 4) pe_int fun _ _ => rfl) (fun _ _ _ _ _ => pe_bl)))
      (pss_cons (ps_set (i := 3) nd rfl (.inl rfl) (pe_callB cr_sortedS (by rfl) T.f_sorted (by decide +kernel) (pa_cons
        (pe_lc (own := [("item", 4)]) (g := gName 4) rfl nd (pi_list (pv 1)) (blkOk_by (N := ["first", "second", "keys", "shared", "item"]) (sc := defScope s_check_keys) (by decide +kernel))
          (fun _ _ _ _ _ => pg_name (i := 4) nd rfl (Or.inl rfl)) (fun _ _ _ _ _ => pts_one (pt_cmp (pc_din (Nat.lt_of_le_of_lt (Nat.add_le_add_left (show 1 ≤ 64 by decide) _) hu) (pe_ix (ixTK K rfl) (pv 4) pe_int fun _ _ => rfl) (pv 2))))
          (fun _ _ _ _ _ => pe_ix (ixTK K rfl) (pv 4) pe_int fun _ _ => rfl)) pa_nil)))
      (pss_one (ps_if (pt_cmpR op_gt (pe_callB call_len_seq (by rfl) T.f_len PySem.boot_len (pa_cons (pv 3) pa_nil)) pe_int (nomark _)) pss_never pss_nil))), ?_⟩
    refine ⟨_, rfl, a, rfl, ⟨_, hA⟩, fun D hD => it_list (K := K) (a := a) (xs := A.map itR) (fun i H' => Same H H' ∧ H' D = some (.dK (kD A i))) ⟨same_new hD, upd_same⟩ (fun i H' _ h' => h'.1.seq hA) ?_ ?_⟩
    · rintro i v H' hi ⟨s1, hDl⟩
      obtain ⟨x, hx, rfl⟩ := map_at hi
      have hil := (List.getElem?_eq_some_iff.mp hx).1
      refine ⟨rfl, _, rfl, x.a, _, 0, _, rfl, rfl, (iA x (List.mem_of_getElem? hx)).ts (.of_same s1), atI0, ?_⟩
      refine ⟨_, .inr x.key, rfl, hDl, ?_, fun b o eb => ?_, ?_⟩
      · have := kD_len A i
        rw [sizeLine_eq]
        omega
      · rw [upd_ne (ne_of_none eb hD)]
        exact s1 b o eb
      · rw [upd_same, kD_succ hx]
    · rintro H1 ⟨s1, hDl⟩
      rw [List.length_map] at hDl
      refine ⟨_, rfl, b, rfl, ⟨_, s1.seq hB⟩, fun E2 hE => lc_list (K := K) (a := b) (xs := B.map itR) (fun i H' => Same H1 H' ∧ H' E2 = some (.lst [])) ⟨same_new hE, upd_same⟩ (fun i H' _ h' => h'.1.seq (s1.seq hB)) ?_ ?_⟩
      · rintro i v H' hi ⟨s2, hEl⟩
        obtain ⟨y, hy, rfl⟩ := map_at hi
        have hym := List.mem_of_getElem? hy
        refine ⟨rfl, ⟨_, rfl, y.a, _, 0, _, rfl, rfl, (iB y hym).ts (.of_same (s1.trans s2)), atI0, _, rfl, D, _, rfl, DGet.k (k := .inr y.key) (s2 _ _ hDl), ?_⟩⟩
        rw [kD_no A y.key fun x hx => hd x hx y hym]
        exact ⟨_, rfl, s2, hEl⟩
      · rintro H2 ⟨s2, hEl⟩
        refine ⟨E2, [], rfl, SqL.of hEl, by decide, fun ys p hp _ hpn => ?_⟩
        have e0 : ys = [] := hp.eq_nil
        subst e0
        refine ⟨_, rfl, p, _, rfl, .inl (SqL.of upd_same), _, _, rfl, rfl, _, rfl, ?_⟩
        refine iteF ?_
        exact k _ ((s1.trans s2).trans (same_new hpn))
end
end Sam

set_option maxHeartbeats 4000000
namespace Sam
open PySem PySem.Spec PyProof.Rows L2
/-! ### classmethods -/
section
variable (P : Program) (w : World) (K : PySem.W.Frag) (mg : Str → Option Value) (base : Heap)
structure CalC (k : Nat) (C : Addr) (m : Str) (sp : Sp) : Prop where
  cr : ClX.CRead K C (.type "type")
  ex : ∃ p g, ClX.CMet K C (.type "type") m p g ∧ FnR P w K mg base CX0 k g sp
end
theorem pe_cm {X : Cx} {k j : Nat} {C : Addr} {m : Str} {sp : Sp} {o e : Expr} {es : List Expr} {ta : TE} {t : TA} {pos apos : Pos} {pl : Sem Bool} (he : PE X o ta) (c : CalC X.prog X.w X.K X.mg X.base k C m sp) (hr : Room j X.A) (ha : PA X (e :: es) t) (hk : k ≤ j := by decide)
    (hst : starEach (e :: es) X.env = (false, eval e X.env) :: starEach es X.env := by rfl) (hpl : (backTo pos (starEach es X.env)).any (·.1) = false := by rfl)
    (ht : eval (.Call (.Attribute o m apos) (e :: es) [] pos) X.env = (do
      let ov ← eval o X.env
      standAt apos.atName
      let (f, first) ← holding [ov] (getMethod ov m pl)
      callWith pos f first (backTo pos (starEach (e :: es) X.env)) (backToKw pos (keywordEach [] X.env))) := by rfl) :
    PE X (.Call (.Attribute o m apos) (e :: es) [] pos) (ClX.tCMeth C sp E0 ta t) := by
  obtain ⟨p, g, cm, F⟩ := c.ex
  exact ClX.pe_cmeth he c.cr cm F (hr.mono hk) pass0 ha hst hpl ht
theorem fnR_of {P : Program} {w : World} {K : PySem.W.Frag} {mg : Str → Option Value} {base : Heap} {k : Nat} {f : Addr} {fd : FuncData} {ps : List Str} {sp : Sp} (F : FnOk P w K mg base CX0 k f fd ps sp) (hb : Binds K fd ps []) : FnR P w K mg base CX0 k f sp :=
  (F.raw hb .nil).imp fun vs H Q E h => by rw [List.append_nil]; exact h
/-! ### samples are made -/
def spSmInit (K : PySem.W.Frag) (un : Bool) : Sp := fun vs H Q _ => ∃ (p dx k : Addr) (size : Nat) (tot : Int) (ks : List Itm), vs = [.ref p, .int size, .int tot, .ref k] ∧ H p = some (.ins (smC K un) dx []) ∧ SqL K H k (ks.map itR) ∧ (∀ x ∈ ks, ItAt K H x) ∧ k ≠ p ∧
  ∀ (c : Addr) (H' : Hp), H c = none → (∀ b o, H b = some o → b ≠ p → H' b = some o) → SmA K H' p c dx ⟨un, size, tot, ks⟩ → Q .non H'
/-- a new sample -/
def NewSm (K : PySem.W.Frag) (H : Hp) (s : Smp) (Q : VK) : Prop := ∀ (a c dx : Addr) (H' : Hp), H a = none → H c = none → Same H H' → SmA K H' a c dx s → Q (.ref a) H'
def spSmEmpty (K : PySem.W.Frag) (un : Bool) : Sp := fun vs H Q _ => ∃ size : Nat, vs = [.ref (smC K un), .int size] ∧ 1 ≤ size ∧ size ≤ 20 ∧ NewSm K H (empty_ (un, size)) Q
def spSmSingle (K : PySem.W.Frag) (un : Bool) : Sp := fun vs H Q _ => ∃ (size : Nat) (x : Itm), vs = [.ref (smC K un), itR x, .int size] ∧ 1 ≤ size ∧ size ≤ 20 ∧ ItAt K H x ∧ NewSm K H (single (un, size) x) Q
def spSmCheck (K : PySem.W.Frag) (un : Bool) : Sp := fun vs H Q _ => ∃ (a c dx b c' dx' : Addr) (s t : Smp), vs = [.ref a, .ref b] ∧ SmA K H a c dx s ∧ SmA K H b c' dx' t ∧ s.un = un ∧ t.un = un ∧ s.size = t.size ∧ (∀ x ∈ s.kept, ∀ y ∈ t.kept, x.key ≠ y.key) ∧ s.kept.length ≤ 100 ∧
  ∀ H', Same H H' → Q .non H'
/-- the view of a sample: (size, seen, kept) -/
def spSmView (K : PySem.W.Frag) (un : Bool) : Sp := fun vs H Q _ => ∃ (a c dx : Addr) (s : Smp), vs = [.ref a] ∧ SmA K H a c dx s ∧ s.un = un ∧
  ∀ (v t : Addr) (H' : Hp), Same H H' → SqT K H' v [.int s.size, .int s.tot, .ref t] → SqT K H' t (s.kept.map itR) → Q (.ref v) H'
theorem made_same {H : Hp} {x dx C : Addr} (hx : H x = none) (hdx : H dx = none) (hne : dx ≠ x) : Same H (upd (upd H dx (.own x)) x (.ins C dx [])) := (same_new hdx).trans (same_new (by rw [upd_ne hne.symm]; exact hx))
section
variable {P : Program} {w : World} {K : PySem.W.Frag} {mg : Str → Option Value} {base : Heap}
theorem ok_Uniform_init (T : Tx K mg) : CalI P w K mg base 1 "Uniform" (smC K true) ["self", "size", "seen", "kept"] (spSmInit K true) := by
  obtain ⟨fd, F⟩ := T.d_Uniform_init
  refine ⟨T.g_Uniform, _, fd, T.k_Uniform, F.binds (ps := ["self", "size", "seen", "kept"]) fun _ _ _ _ _ _ us hl => match us, hl with | [_, _, _, _], _ => rfl, F.ok sc_Uniform_init (fun vs H Q E h => ?_) (fun cdv A outer s H vs Q E hr h => ?_)⟩
  · obtain ⟨p, dx, k, size, tot, ks, rfl, _⟩ := h
    rfl
  · obtain ⟨p, dx, k, size, tot, ks, rfl, hp, hk, hi, hne, q⟩ := h
    have cl := T.c_Uniform
    refine ⟨_, pss_cons (ps_fld (pv 0) (pv 1) rfl) (pss_cons (ps_fld (pv 0) (pv 2) rfl) (pss_one (ps_fld (pv 0) (pe_callTy call_list_of (by rfl) T.f_list (by decide +kernel) (pa_cons (pv 3) pa_nil)) rfl))), ?_⟩
    refine ⟨_, rfl, _, rfl, p, _, dx, [], rfl, hp, cl, T.n_Uniform_size, (by show 0 < 1000; decide), ?_⟩
    refine ⟨_, rfl, _, rfl, p, _, dx, _, rfl, upd_same, cl, T.n_Uniform_seen, (by show 1 < 1000; decide), ?_⟩
    rw [upd_upd]
    generalize hH1 : upd H p _ = H1
    have o1 : ∀ b, b ≠ p → H1 b = H b := fun b hb => by rw [← hH1, upd_ne hb]
    have p1 : H1 p = some (.ins (smC K true) dx (putF "seen" (.int tot) (putF "size" (.int size) []))) := by rw [← hH1, upd_same]
    have hk1 : SqL K H1 k (ks.map itR) := by
      rcases hk with (e | ⟨o, e⟩) | e
      · exact .inl (.inl (by rw [o1 k hne]; exact e))
      · exact .inl (.inr ⟨o, by rw [o1 k hne]; exact e⟩)
      · exact .inr e
    refine ⟨_, rfl, k, _, rfl, .inl hk1, fun c hc => ?_⟩
    have npc : p ≠ c := fun z => by rw [← z, p1] at hc; cases hc
    have hc0 : H c = none := by rw [← o1 c npc.symm]; exact hc
    refine ⟨_, rfl, p, _, dx, _, rfl, (by rw [upd_ne npc]; exact p1), cl, T.n_Uniform_kept, (by show 2 < 1000; decide), ?_⟩
    have e1 : putF "kept" (.ref c) (putF "seen" (.int tot) (putF "size" (.int size) [])) = smF true size tot c := by kernel_rfl
    rw [e1]
    have oo : ∀ b o, H b = some o → b ≠ p → upd (upd H1 c (.lst (ks.map itR))) p (.ins (smC K true) dx (smF true size tot c)) b = some o := fun b o eb hb => by
      rw [upd_ne hb, upd_ne (ne_of_none eb hc0), o1 b hb]
      exact eb
    refine q c _ hc0 oo ⟨upd_same, by rw [upd_ne npc.symm, upd_same], fun x hx => ?_⟩
    rcases hi x hx with (e | ⟨o, e⟩) | e
    · exact .inl (.inl (oo _ _ e fun z => by rw [z, hp] at e; cases e))
    · exact .inl (.inr ⟨o, oo _ _ e fun z => by rw [z, hp] at e; cases e⟩)
    · exact .inr e
theorem ok_Uniform_empty (T : Tx K mg) : CalC P w K mg base 3 (smC K true) "empty" (spSmEmpty K true) := by
  obtain ⟨fd, F⟩ := T.d_Uniform_empty
  refine ⟨T.cr_Uniform, _, _, T.cm_Uniform_empty, fnR_of (F.ok sc_Uniform_empty (fun vs H Q E h => ?_) (fun cdv A outer s H vs Q E hr h => ?_)) (F.binds (ps := ["cls", "size"]) fun _ _ _ _ _ _ us hl => match us, hl with | [_, _], _ => rfl)⟩
  · obtain ⟨size, rfl, _⟩ := h
    rfl
  · obtain ⟨size, rfl, h1, h2, q⟩ := h
    refine ⟨_, pss_cons (ps_expr (pe_f (ok_check_size T) hr rfl (pa_cons (pv 1) pa_nil)))
      (pss_one (ps_ret (pe_mkL (i := 0) (ok_Uniform_init T) hr rfl (.inl rfl) (pa_cons (pv 1) (pa_cons pe_int (pa_cons (pe_lst pa_nil) pa_nil)))))), ?_⟩
    refine ⟨_, rfl, size, rfl, by omega, by omega, ?_⟩
    refine ⟨rfl, _, rfl, Nat.zero_le _, fun k hk => fun x dx hx hdx hne => ?_⟩
    have nkx : k ≠ x := ne_of_none upd_same hx
    have s0 := same_new (o := .lst []) hk
    have s1 := s0.trans (made_same (C := smC K true) hx hdx hne)
    refine ⟨x, dx, k, size, 0, [], rfl, upd_same, SqL.of (made_same hx hdx hne k _ upd_same), (fun y hy => nomatch hy), nkx, fun c H' hc oo sm => ?_⟩
    exact ⟨rfl, q x c dx H' (s0.free hx) (s1.free hc) (fun b o eb => oo b o (s1 b o eb) (ne_of_none eb (s0.free hx))) sm⟩
theorem ok_Uniform_single (T : Tx K mg) : CalC P w K mg base 3 (smC K true) "single" (spSmSingle K true) := by
  obtain ⟨fd, F⟩ := T.d_Uniform_single
  refine ⟨T.cr_Uniform, _, _, T.cm_Uniform_single, fnR_of (F.ok sc_Uniform_single (fun vs H Q E h => ?_) (fun cdv A outer s H vs Q E hr h => ?_)) (F.binds (ps := ["cls", "item", "size"]) fun _ _ _ _ _ _ us hl => match us, hl with | [_, _, _], _ => rfl)⟩
  · obtain ⟨size, y, rfl, _⟩ := h
    rfl
  · obtain ⟨size, y, rfl, h1, h2, hy, q⟩ := h
    refine ⟨_, pss_cons (ps_expr (pe_f (ok_check_size T) hr rfl (pa_cons (pv 2) pa_nil)))
      (pss_one (ps_ret (pe_mkL (i := 0) (ok_Uniform_init T) hr rfl (.inl rfl) (pa_cons (pv 2) (pa_cons pe_int (pa_cons (pe_lst (pa_cons (pv 1) pa_nil)) pa_nil)))))), ?_⟩
    refine ⟨_, rfl, size, rfl, by omega, by omega, ?_⟩
    refine ⟨rfl, _, rfl, _, rfl, (by show 1 ≤ sizeLine; decide), fun k hk => fun x dx hx hdx hne => ?_⟩
    have nkx : k ≠ x := ne_of_none upd_same hx
    have s0 := same_new (o := .lst [itR y]) hk
    have s1 := s0.trans (made_same (C := smC K true) hx hdx hne)
    refine ⟨x, dx, k, size, wtOf true y, [y], rfl, upd_same, SqL.of (made_same hx hdx hne k _ upd_same), (fun z hz => ?_), nkx, fun c H' hc oo sm => ?_⟩
    · rw [List.mem_singleton.mp hz]
      exact hy.ts (.of_same s1)
    exact ⟨rfl, q x c dx H' (s0.free hx) (s1.free hc) (fun b o eb => oo b o (s1 b o eb) (ne_of_none eb (s0.free hx))) sm⟩
theorem ok_Uniform_check (T : Tx K mg) : CalM P w K mg base 2 (smC K true) "check" ["self", "other"] (spSmCheck K true) := by
  obtain ⟨fd, F⟩ := T.d_Uniform_check
  refine ⟨T.c_Uniform, _, fd, T.m_Uniform_check, F.binds (ps := ["self", "other"]) fun _ _ _ _ _ _ us hl => match us, hl with | [_, _], _ => rfl, F.ok sc_Uniform_check (fun vs H Q E h => ?_) (fun cdv A outer s H vs Q E hr h => ?_)⟩
  · obtain ⟨a, c, dx, b, c', dx', s, t, rfl, _⟩ := h
    rfl
  · obtain ⟨a, c, dx, b, c', dx', ⟨su, ss, st, sk⟩, ⟨tu, ts, tt, tk⟩, rfl, hs, ht, e1, e2, e3, hd, hl, q⟩ := h
    have e1 : su = true := e1
    have e2 : tu = true := e2
    have e3 : ss = ts := e3
    subst e1 e2 e3
    have cl := T.c_Uniform
    refine ⟨_, pss_cons (ps_if (PW.pt (pw_or (pt_not (pt_val (pe_callB (C8.call_isC T.is_Uniform) (by rfl) T.f_isinstance (by decide +kernel) (pa_cons (pv 1) (pa_cons (pe_glob rfl T.g_Uniform (v := .ref _) rfl) pa_nil))))) (pw_or1 (pt_cmpR op_ne (pe_fld (pv 1) rfl) (pe_fld (pv 0) rfl) (nomark _))))) pss_never pss_nil)
      (pss_one (ps_expr (pe_f (ok_check_keys T) hr rfl (pa_cons (pe_fld (pv 0) rfl) (pa_cons (pe_fld (pv 1) rfl) pa_nil))))), ?_⟩
    refine ⟨_, rfl, b, dx', _, rfl, ht.ins, true, rfl, ?_⟩
    refine iteF ?_
    refine ⟨_, rfl, b, _, dx', _, _, rfl, ht.ins, cl, T.n_Uniform_size, sm_size _ _ _ _, _, rfl, a, _, dx, _, _, rfl, hs.ins, cl, T.n_Uniform_size, sm_size _ _ _ _, rfl, _, rfl, ?_⟩
    have e0 : (!decide (V.int (ss : Int) = V.int (ss : Int))) = false := by rw [decide_eq_true rfl]; rfl
    show if (!decide (V.int (ss : Int) = V.int (ss : Int))) = true then _ else _
    rw [e0]
    refine iteF ?_
    refine ⟨_, rfl, a, _, dx, _, _, rfl, hs.ins, cl, T.n_Uniform_kept, sm_kept _ _ _ _, _, rfl, b, _, dx', _, _, rfl, ht.ins, cl, T.n_Uniform_kept, sm_kept _ _ _ _, ?_⟩
    exact ⟨c, c', sk, tk, rfl, SqL.of hs.lst, SqL.of ht.lst, hs.its, ht.its, hd, hl, q⟩
theorem ok_Uniform_view (T : Tx K mg) : CalM P w K mg base 1 (smC K true) "view" ["self"] (spSmView K true) := by
  obtain ⟨fd, F⟩ := T.d_Uniform_view
  refine ⟨T.c_Uniform, _, fd, T.m_Uniform_view, F.binds (ps := ["self"]) fun _ _ _ _ _ _ us hl => match us, hl with | [_], _ => rfl, F.ok sc_Uniform_view (fun vs H Q E h => ?_) (fun cdv A outer s H vs Q E hr h => ?_)⟩
  · obtain ⟨a, c, dx, s, rfl, _⟩ := h
    rfl
  · obtain ⟨a, c, dx, ⟨su, ss, st, sk⟩, rfl, hs, e1, q⟩ := h
    have e1 : su = true := e1
    subst e1
    have cl := T.c_Uniform
    refine ⟨_, pss_one (ps_ret (pe_tup (pa_cons (pe_fld (pv 0) rfl) (pa_cons (pe_fld (pv 0) rfl) (pa_cons (pe_callTy call_tuple_of (by rfl) T.f_tuple (by decide +kernel) (pa_cons (pe_fld (pv 0) rfl) pa_nil)) pa_nil))))), ?_⟩
    refine ⟨_, rfl, a, _, dx, _, _, rfl, hs.ins, cl, T.n_Uniform_size, sm_size _ _ _ _, _, rfl, a, _, dx, _, _, rfl, hs.ins, cl, T.n_Uniform_seen, sm_seen _ _ _, _, rfl, a, _, dx, _, _, rfl, hs.ins, cl, T.n_Uniform_kept, sm_kept _ _ _ _, c, _, rfl, .inl ⟨SqL.of hs.lst, fun t ht => ⟨(by show 3 ≤ sizeLine; decide), fun v hv => ?_⟩⟩⟩
    exact q v t _ ((same_new ht).trans (same_new hv)) (SqT.of upd_same) (Same.seqT (same_new hv) (SqT.of upd_same))
theorem ok_Weighted_init (T : Tx K mg) : CalI P w K mg base 1 "Weighted" (smC K false) ["self", "size", "total", "kept"] (spSmInit K false) := by
  obtain ⟨fd, F⟩ := T.d_Weighted_init
  refine ⟨T.g_Weighted, _, fd, T.k_Weighted, F.binds (ps := ["self", "size", "total", "kept"]) fun _ _ _ _ _ _ us hl => match us, hl with | [_, _, _, _], _ => rfl, F.ok sc_Weighted_init (fun vs H Q E h => ?_) (fun cdv A outer s H vs Q E hr h => ?_)⟩
  · obtain ⟨p, dx, k, size, tot, ks, rfl, _⟩ := h
    rfl
  · obtain ⟨p, dx, k, size, tot, ks, rfl, hp, hk, hi, hne, q⟩ := h
    have cl := T.c_Weighted
    refine ⟨_, pss_cons (ps_fld (pv 0) (pv 1) rfl) (pss_cons (ps_fld (pv 0) (pv 2) rfl) (pss_one (ps_fld (pv 0) (pe_callTy call_list_of (by rfl) T.f_list (by decide +kernel) (pa_cons (pv 3) pa_nil)) rfl))), ?_⟩
    refine ⟨_, rfl, _, rfl, p, _, dx, [], rfl, hp, cl, T.n_Weighted_size, (by show 0 < 1000; decide), ?_⟩
    refine ⟨_, rfl, _, rfl, p, _, dx, _, rfl, upd_same, cl, T.n_Weighted_total, (by show 1 < 1000; decide), ?_⟩
    rw [upd_upd]
    generalize hH1 : upd H p _ = H1
    have o1 : ∀ b, b ≠ p → H1 b = H b := fun b hb => by rw [← hH1, upd_ne hb]
    have p1 : H1 p = some (.ins (smC K false) dx (putF "total" (.int tot) (putF "size" (.int size) []))) := by rw [← hH1, upd_same]
    have hk1 : SqL K H1 k (ks.map itR) := by
      rcases hk with (e | ⟨o, e⟩) | e
      · exact .inl (.inl (by rw [o1 k hne]; exact e))
      · exact .inl (.inr ⟨o, by rw [o1 k hne]; exact e⟩)
      · exact .inr e
    refine ⟨_, rfl, k, _, rfl, .inl hk1, fun c hc => ?_⟩
    have npc : p ≠ c := fun z => by rw [← z, p1] at hc; cases hc
    have hc0 : H c = none := by rw [← o1 c npc.symm]; exact hc
    refine ⟨_, rfl, p, _, dx, _, rfl, (by rw [upd_ne npc]; exact p1), cl, T.n_Weighted_kept, (by show 2 < 1000; decide), ?_⟩
    have e1 : putF "kept" (.ref c) (putF "total" (.int tot) (putF "size" (.int size) [])) = smF false size tot c := by kernel_rfl
    rw [e1]
    have oo : ∀ b o, H b = some o → b ≠ p → upd (upd H1 c (.lst (ks.map itR))) p (.ins (smC K false) dx (smF false size tot c)) b = some o := fun b o eb hb => by
      rw [upd_ne hb, upd_ne (ne_of_none eb hc0), o1 b hb]
      exact eb
    refine q c _ hc0 oo ⟨upd_same, by rw [upd_ne npc.symm, upd_same], fun x hx => ?_⟩
    rcases hi x hx with (e | ⟨o, e⟩) | e
    · exact .inl (.inl (oo _ _ e fun z => by rw [z, hp] at e; cases e))
    · exact .inl (.inr ⟨o, oo _ _ e fun z => by rw [z, hp] at e; cases e⟩)
    · exact .inr e
theorem ok_Weighted_empty (T : Tx K mg) : CalC P w K mg base 3 (smC K false) "empty" (spSmEmpty K false) := by
  obtain ⟨fd, F⟩ := T.d_Weighted_empty
  refine ⟨T.cr_Weighted, _, _, T.cm_Weighted_empty, fnR_of (F.ok sc_Weighted_empty (fun vs H Q E h => ?_) (fun cdv A outer s H vs Q E hr h => ?_)) (F.binds (ps := ["cls", "size"]) fun _ _ _ _ _ _ us hl => match us, hl with | [_, _], _ => rfl)⟩
  · obtain ⟨size, rfl, _⟩ := h
    rfl
  · obtain ⟨size, rfl, h1, h2, q⟩ := h
    refine ⟨_, pss_cons (ps_expr (pe_f (ok_check_size T) hr rfl (pa_cons (pv 1) pa_nil)))
      (pss_one (ps_ret (pe_mkL (i := 0) (ok_Weighted_init T) hr rfl (.inl rfl) (pa_cons (pv 1) (pa_cons pe_int (pa_cons (pe_lst pa_nil) pa_nil)))))), ?_⟩
    refine ⟨_, rfl, size, rfl, by omega, by omega, ?_⟩
    refine ⟨rfl, _, rfl, Nat.zero_le _, fun k hk => fun x dx hx hdx hne => ?_⟩
    have nkx : k ≠ x := ne_of_none upd_same hx
    have s0 := same_new (o := .lst []) hk
    have s1 := s0.trans (made_same (C := smC K false) hx hdx hne)
    refine ⟨x, dx, k, size, 0, [], rfl, upd_same, SqL.of (made_same hx hdx hne k _ upd_same), (fun y hy => nomatch hy), nkx, fun c H' hc oo sm => ?_⟩
    exact ⟨rfl, q x c dx H' (s0.free hx) (s1.free hc) (fun b o eb => oo b o (s1 b o eb) (ne_of_none eb (s0.free hx))) sm⟩
theorem ok_Weighted_single (T : Tx K mg) : CalC P w K mg base 3 (smC K false) "single" (spSmSingle K false) := by
  obtain ⟨fd, F⟩ := T.d_Weighted_single
  refine ⟨T.cr_Weighted, _, _, T.cm_Weighted_single, fnR_of (F.ok sc_Weighted_single (fun vs H Q E h => ?_) (fun cdv A outer s H vs Q E hr h => ?_)) (F.binds (ps := ["cls", "item", "size"]) fun _ _ _ _ _ _ us hl => match us, hl with | [_, _, _], _ => rfl)⟩
  · obtain ⟨size, y, rfl, _⟩ := h
    rfl
  · obtain ⟨size, y, rfl, h1, h2, hy, q⟩ := h
    refine ⟨_, pss_cons (ps_expr (pe_f (ok_check_size T) hr rfl (pa_cons (pv 2) pa_nil)))
      (pss_one (ps_ret (pe_mkL (i := 0) (ok_Weighted_init T) hr rfl (.inl rfl) (pa_cons (pv 2) (pa_cons (pe_ix ix_tup (pv 1) pe_int fun _ _ => rfl) (pa_cons (pe_lst (pa_cons (pv 1) pa_nil)) pa_nil)))))), ?_⟩
    refine ⟨_, rfl, size, rfl, by omega, by omega, ?_⟩
    refine ⟨rfl, _, rfl, _, rfl, y.a, _, 2, _, rfl, rfl, hy, atI2, _, rfl, (by show 1 ≤ sizeLine; decide), fun k hk => fun x dx hx hdx hne => ?_⟩
    have nkx : k ≠ x := ne_of_none upd_same hx
    have s0 := same_new (o := .lst [itR y]) hk
    have s1 := s0.trans (made_same (C := smC K false) hx hdx hne)
    refine ⟨x, dx, k, size, wtOf false y, [y], rfl, upd_same, SqL.of (made_same hx hdx hne k _ upd_same), (fun z hz => ?_), nkx, fun c H' hc oo sm => ?_⟩
    · rw [List.mem_singleton.mp hz]
      exact hy.ts (.of_same s1)
    exact ⟨rfl, q x c dx H' (s0.free hx) (s1.free hc) (fun b o eb => oo b o (s1 b o eb) (ne_of_none eb (s0.free hx))) sm⟩
theorem ok_Weighted_check (T : Tx K mg) : CalM P w K mg base 2 (smC K false) "check" ["self", "other"] (spSmCheck K false) := by
  obtain ⟨fd, F⟩ := T.d_Weighted_check
  refine ⟨T.c_Weighted, _, fd, T.m_Weighted_check, F.binds (ps := ["self", "other"]) fun _ _ _ _ _ _ us hl => match us, hl with | [_, _], _ => rfl, F.ok sc_Weighted_check (fun vs H Q E h => ?_) (fun cdv A outer s H vs Q E hr h => ?_)⟩
  · obtain ⟨a, c, dx, b, c', dx', s, t, rfl, _⟩ := h
    rfl
  · obtain ⟨a, c, dx, b, c', dx', ⟨su, ss, st, sk⟩, ⟨tu, ts, tt, tk⟩, rfl, hs, ht, e1, e2, e3, hd, hl, q⟩ := h
    have e1 : su = false := e1
    have e2 : tu = false := e2
    have e3 : ss = ts := e3
    subst e1 e2 e3
    have cl := T.c_Weighted
    refine ⟨_, pss_cons (ps_if (PW.pt (pw_or (pt_not (pt_val (pe_callB (C8.call_isC T.is_Weighted) (by rfl) T.f_isinstance (by decide +kernel) (pa_cons (pv 1) (pa_cons (pe_glob rfl T.g_Weighted (v := .ref _) rfl) pa_nil))))) (pw_or1 (pt_cmpR op_ne (pe_fld (pv 1) rfl) (pe_fld (pv 0) rfl) (nomark _))))) pss_never pss_nil)
      (pss_one (ps_expr (pe_f (ok_check_keys T) hr rfl (pa_cons (pe_fld (pv 0) rfl) (pa_cons (pe_fld (pv 1) rfl) pa_nil))))), ?_⟩
    refine ⟨_, rfl, b, dx', _, rfl, ht.ins, true, rfl, ?_⟩
    refine iteF ?_
    refine ⟨_, rfl, b, _, dx', _, _, rfl, ht.ins, cl, T.n_Weighted_size, sm_size _ _ _ _, _, rfl, a, _, dx, _, _, rfl, hs.ins, cl, T.n_Weighted_size, sm_size _ _ _ _, rfl, _, rfl, ?_⟩
    have e0 : (!decide (V.int (ss : Int) = V.int (ss : Int))) = false := by rw [decide_eq_true rfl]; rfl
    show if (!decide (V.int (ss : Int) = V.int (ss : Int))) = true then _ else _
    rw [e0]
    refine iteF ?_
    refine ⟨_, rfl, a, _, dx, _, _, rfl, hs.ins, cl, T.n_Weighted_kept, sm_kept _ _ _ _, _, rfl, b, _, dx', _, _, rfl, ht.ins, cl, T.n_Weighted_kept, sm_kept _ _ _ _, ?_⟩
    exact ⟨c, c', sk, tk, rfl, SqL.of hs.lst, SqL.of ht.lst, hs.its, ht.its, hd, hl, q⟩
theorem ok_Weighted_view (T : Tx K mg) : CalM P w K mg base 1 (smC K false) "view" ["self"] (spSmView K false) := by
  obtain ⟨fd, F⟩ := T.d_Weighted_view
  refine ⟨T.c_Weighted, _, fd, T.m_Weighted_view, F.binds (ps := ["self"]) fun _ _ _ _ _ _ us hl => match us, hl with | [_], _ => rfl, F.ok sc_Weighted_view (fun vs H Q E h => ?_) (fun cdv A outer s H vs Q E hr h => ?_)⟩
  · obtain ⟨a, c, dx, s, rfl, _⟩ := h
    rfl
  · obtain ⟨a, c, dx, ⟨su, ss, st, sk⟩, rfl, hs, e1, q⟩ := h
    have e1 : su = false := e1
    subst e1
    have cl := T.c_Weighted
    refine ⟨_, pss_one (ps_ret (pe_tup (pa_cons (pe_fld (pv 0) rfl) (pa_cons (pe_fld (pv 0) rfl) (pa_cons (pe_callTy call_tuple_of (by rfl) T.f_tuple (by decide +kernel) (pa_cons (pe_fld (pv 0) rfl) pa_nil)) pa_nil))))), ?_⟩
    refine ⟨_, rfl, a, _, dx, _, _, rfl, hs.ins, cl, T.n_Weighted_size, sm_size _ _ _ _, _, rfl, a, _, dx, _, _, rfl, hs.ins, cl, T.n_Weighted_total, sm_total _ _ _, _, rfl, a, _, dx, _, _, rfl, hs.ins, cl, T.n_Weighted_kept, sm_kept _ _ _ _, c, _, rfl, .inl ⟨SqL.of hs.lst, fun t ht => ⟨(by show 3 ≤ sizeLine; decide), fun v hv => ?_⟩⟩⟩
    exact q v t _ ((same_new ht).trans (same_new hv)) (SqT.of upd_same) (Same.seqT (same_new hv) (SqT.of upd_same))
end
end Sam

set_option maxHeartbeats 4000000
namespace Sam
open PySem PySem.Spec PyProof.Rows L2
/-! ### the cells of a merge -/
structure MS (d : Dc) (Y : Addr → Prop) (H0 : Hp) (lc la lb lo fc : Addr) : Prop where
  nd : [lc, la, lb, lo, fc].Nodup
  ok : ∀ b ∈ [lc, la, lb, lo, fc], ¬ d.X b ∧ Y b ∧ H0 b = none
structure MC (K : PySem.W.Frag) (d : Dc) (Y : Addr → Prop) (H0 H : Hp) (lc la lb lo fc : Addr) (l1 l2 : Int) (K1 K2 acc : List Itm) (e : ES) (rows : List (Outcome × Rat)) : Prop where
  kp : Kp d H0 H
  ex : ExAt K d Y H e true false rows
  hc : H lc = some (.lst [.int l1, .int l2])
  ha : H la = some (.lst (K1.map itR))
  hb : H lb = some (.lst (K2.map itR))
  ho : H lo = some (.lst [.ref la, .ref lb])
  hf : H fc = some (.lst (acc.map itR))
  i1 : ∀ x ∈ K1, ItAt K H x
  i2 : ∀ x ∈ K2, ItAt K H x
  i3 : ∀ x ∈ acc, ItAt K H x
section
variable {K : PySem.W.Frag} {d : Dc} {Y : Addr → Prop} {H0 H : Hp} {lc la lb lo fc : Addr} {l1 l2 : Int} {K1 K2 acc : List Itm} {e : ES} {rows : List (Outcome × Rat)}
theorem MC.pick (c : MC K d Y H0 H lc la lb lo fc l1 l2 K1 K2 acc e rows) (S : MS d Y H0 lc la lb lo fc) {H' : Hp} {e' : ES} (k : Kp d H H') (x : ExAt K d Y H' e' true false rows) : MC K d Y H0 H' lc la lb lo fc l1 l2 K1 K2 acc e' rows :=
  ⟨c.kp.trans k, x, k.keep _ _ c.hc (S.ok lc (by simp)).1, k.keep _ _ c.ha (S.ok la (by simp)).1, k.keep _ _ c.hb (S.ok lb (by simp)).1, k.keep _ _ c.ho (S.ok lo (by simp)).1, k.keep _ _ c.hf (S.ok fc (by simp)).1,
    fun y hy => (c.i1 y hy).ts k.ts, fun y hy => (c.i2 y hy).ts k.ts, fun y hy => (c.i3 y hy).ts k.ts⟩
theorem MC.same (c : MC K d Y H0 H lc la lb lo fc l1 l2 K1 K2 acc e rows) (S : MS d Y H0 lc la lb lo fc) {H' : Hp} (s : Same H H') : MC K d Y H0 H' lc la lb lo fc l1 l2 K1 K2 acc e rows := c.pick S (.of_same s) (c.ex.same s)
theorem MC.cell {b : Addr} {xs ys : List V} (c : MC K d Y H0 H lc la lb lo fc l1 l2 K1 K2 acc e rows) (S : MS d Y H0 lc la lb lo fc) (hm : b ∈ [lc, la, lb, lo, fc]) (hb : H b = some (.lst xs)) :
    Kp d H0 (upd H b (.lst ys)) ∧ Ts H (upd H b (.lst ys)) ∧ ExAt K d Y (upd H b (.lst ys)) e true false rows :=
  ⟨c.kp.mine (S.ok b hm).2.2, ts_lst hb, c.ex.upd (S.ok b hm).1 (S.ok b hm).2.1 (ts_lst hb)⟩
theorem MC.setC (c : MC K d Y H0 H lc la lb lo fc l1 l2 K1 K2 acc e rows) (S : MS d Y H0 lc la lb lo fc) (l1' l2' : Int) : MC K d Y H0 (upd H lc (.lst [.int l1', .int l2'])) lc la lb lo fc l1' l2' K1 K2 acc e rows := by
  obtain ⟨k, t, x⟩ := c.cell S (b := lc) (ys := [.int l1', .int l2']) (by simp) c.hc
  have nd := S.nd
  simp only [List.nodup_cons, List.mem_cons, List.not_mem_nil, not_or, or_false] at nd
  obtain ⟨⟨n1, n2, n3, n4⟩, _⟩ := nd
  exact ⟨k, x, upd_same, by rw [upd_ne (Ne.symm n1)]; exact c.ha, by rw [upd_ne (Ne.symm n2)]; exact c.hb, by rw [upd_ne (Ne.symm n3)]; exact c.ho, by rw [upd_ne (Ne.symm n4)]; exact c.hf, fun y hy => (c.i1 y hy).ts t, fun y hy => (c.i2 y hy).ts t, fun y hy => (c.i3 y hy).ts t⟩
theorem MC.setA (c : MC K d Y H0 H lc la lb lo fc l1 l2 K1 K2 acc e rows) (S : MS d Y H0 lc la lb lo fc) {K' : List Itm} (hi : ∀ x ∈ K', x ∈ K1) : MC K d Y H0 (upd H la (.lst (K'.map itR))) lc la lb lo fc l1 l2 K' K2 acc e rows := by
  obtain ⟨k, t, x⟩ := c.cell S (b := la) (ys := K'.map itR) (by simp) c.ha
  have nd := S.nd
  simp only [List.nodup_cons, List.mem_cons, List.not_mem_nil, not_or, or_false] at nd
  obtain ⟨⟨n1, n2, n3, n4⟩, ⟨m1, m2, m3⟩, _⟩ := nd
  exact ⟨k, x, by rw [upd_ne n1]; exact c.hc, upd_same, by rw [upd_ne (Ne.symm m1)]; exact c.hb, by rw [upd_ne (Ne.symm m2)]; exact c.ho, by rw [upd_ne (Ne.symm m3)]; exact c.hf, fun y hy => (c.i1 y (hi y hy)).ts t, fun y hy => (c.i2 y hy).ts t, fun y hy => (c.i3 y hy).ts t⟩
theorem MC.setB (c : MC K d Y H0 H lc la lb lo fc l1 l2 K1 K2 acc e rows) (S : MS d Y H0 lc la lb lo fc) {K' : List Itm} (hi : ∀ x ∈ K', x ∈ K2) : MC K d Y H0 (upd H lb (.lst (K'.map itR))) lc la lb lo fc l1 l2 K1 K' acc e rows := by
  obtain ⟨k, t, x⟩ := c.cell S (b := lb) (ys := K'.map itR) (by simp) c.hb
  have nd := S.nd
  simp only [List.nodup_cons, List.mem_cons, List.not_mem_nil, not_or, or_false] at nd
  obtain ⟨⟨n1, n2, n3, n4⟩, ⟨m1, m2, m3⟩, ⟨p1, p2⟩, _⟩ := nd
  exact ⟨k, x, by rw [upd_ne n2]; exact c.hc, by rw [upd_ne m1]; exact c.ha, upd_same, by rw [upd_ne (Ne.symm p1)]; exact c.ho, by rw [upd_ne (Ne.symm p2)]; exact c.hf, fun y hy => (c.i1 y hy).ts t, fun y hy => (c.i2 y (hi y hy)).ts t, fun y hy => (c.i3 y hy).ts t⟩
theorem MC.setF (c : MC K d Y H0 H lc la lb lo fc l1 l2 K1 K2 acc e rows) (S : MS d Y H0 lc la lb lo fc) {x : Itm} (hi : ItAt K H x) : MC K d Y H0 (upd H fc (.lst (acc.map itR ++ [itR x]))) lc la lb lo fc l1 l2 K1 K2 (acc ++ [x]) e rows := by
  obtain ⟨k, t, z⟩ := c.cell S (b := fc) (ys := acc.map itR ++ [itR x]) (by simp) c.hf
  have nd := S.nd
  simp only [List.nodup_cons, List.mem_cons, List.not_mem_nil, not_or, or_false] at nd
  obtain ⟨⟨n1, n2, n3, n4⟩, ⟨m1, m2, m3⟩, ⟨p1, p2⟩, q1, _⟩ := nd
  refine ⟨k, z, by rw [upd_ne n4]; exact c.hc, by rw [upd_ne m3]; exact c.ha, by rw [upd_ne p2]; exact c.hb, by rw [upd_ne q1]; exact c.ho, by rw [upd_same, List.map_append]; rfl, fun y hy => (c.i1 y hy).ts t, fun y hy => (c.i2 y hy).ts t, fun y hy => ?_⟩
  rcases List.mem_append.mp hy with hy | hy
  · exact (c.i3 y hy).ts t
  · rw [List.mem_singleton.mp hy]
    exact hi.ts t
end
/-- self, other merged with the dice -/
def spSmMerge (K : PySem.W.Frag) (un : Bool) : Sp := fun vs H Q _ => ∃ (d : Dc) (Y : Addr → Prop) (a c dx b c' dx' : Addr) (r : Rule) (A B : List Itm) (s t : Smp) (e : ES) (rows : List (Outcome × Rat)), vs = [.ref a, .ref b, .ref d.p] ∧ SmA K H a c dx s ∧ SmA K H b c' dx' t ∧
  r.1 = un ∧ r.2 ≤ 2 ∧ SOk r A s ∧ SOk r B t ∧ (∀ x ∈ A, ItOk x) ∧ (∀ x ∈ B, ItOk x) ∧ A.length + B.length ≤ 4 ∧ ((s.kept ++ t.kept).map (·.key)).Nodup ∧ (¬ d.X a ∧ ¬ d.X c) ∧ (¬ d.X b ∧ ¬ d.X c') ∧ ExAt K d Y H e true false rows ∧ Fit (mergeT srtI s t) e ∧
  ∀ (v q z : Addr) (H' : Hp), H v = none → H q = none → Kp d H H' → SmA K H' v q z (run (mergeT srtI s t) e).1 → ExAt K d Y H' (run (mergeT srtI s t) e).2 true false rows → Q (.ref v) H'
end Sam

set_option maxHeartbeats 4000000
namespace Sam
open PySem PySem.Spec PyProof.Rows L2
theorem pk_pos {ws : List Int} {e : ES} (hW : WsOk ws) (hv : e.at_ = e.path.length ∨ ∃ n, e.path[e.at_]? = some (n, ws) ∧ 0 < wAt ws n) : 0 < wAt ws (pkN ws e) := by
  rcases hv with hv | ⟨n, h1, h2⟩
  · rw [(pk_end (ws := ws) hv).2]
    exact (first_pos hW).1
  · rw [(pk_mid (ws := ws) h1).2]
    exact h2
theorem pair_pos {l1 l2 : Int} {n : Nat} (h : 0 < wAt [l1, l2] n) : (n = 0 ∧ 0 < l1) ∨ (n = 1 ∧ 0 < l2) := by
  match n, h with
  | 0, h => exact .inl ⟨rfl, h⟩
  | 1, h => exact .inr ⟨rfl, h⟩
  | n + 2, h => rw [wAt2] at h; exact absurd h (by decide)
section
variable {K : PySem.W.Frag} {d : Dc} {Y : Addr → Prop} {H0 H : Hp} {e : ES} {rows : List (Outcome × Rat)}
/-- the cells are new -/
theorem mc_start (hx : ExAt K d Y H e true false rows) (h0 : Same H0 H) {lc la lb lo fc : Addr} {l1 l2 : Int} {K1 K2 : List Itm} (i1 : ∀ x ∈ K1, ItAt K H x) (i2 : ∀ x ∈ K2, ItAt K H x) (hc : H lc = none) (ha : upd H lc (.lst [.int l1, .int l2]) la = none)
    (hb : upd (upd H lc (.lst [.int l1, .int l2])) la (.lst (K1.map itR)) lb = none) (ho : upd (upd (upd H lc (.lst [.int l1, .int l2])) la (.lst (K1.map itR))) lb (.lst (K2.map itR)) lo = none)
    (hf : upd (upd (upd (upd H lc (.lst [.int l1, .int l2])) la (.lst (K1.map itR))) lb (.lst (K2.map itR))) lo (.lst [.ref la, .ref lb]) fc = none) :
    MS d (fun b => Y b ∨ b ∈ [lc, la, lb, lo, fc]) H0 lc la lb lo fc ∧
    MC K d (fun b => Y b ∨ b ∈ [lc, la, lb, lo, fc]) H0 (upd (upd (upd (upd (upd H lc (.lst [.int l1, .int l2])) la (.lst (K1.map itR))) lb (.lst (K2.map itR))) lo (.lst [.ref la, .ref lb])) fc (.lst [])) lc la lb lo fc l1 l2 K1 K2 [] e rows := by
  have s1 := same_new (o := .lst [.int l1, .int l2]) hc
  have s2 := same_new (o := .lst (K1.map itR)) ha
  have s3 := same_new (o := .lst (K2.map itR)) hb
  have s4 := same_new (o := .lst [.ref la, .ref lb]) ho
  have s5 := same_new (o := .lst []) hf
  have c1 : upd H lc (.lst [.int l1, .int l2]) lc = some (.lst [.int l1, .int l2]) := upd_same
  have c2 : upd (upd H lc (.lst [.int l1, .int l2])) la (.lst (K1.map itR)) la = some (.lst (K1.map itR)) := upd_same
  have c3 : upd (upd (upd H lc (.lst [.int l1, .int l2])) la (.lst (K1.map itR))) lb (.lst (K2.map itR)) lb = some (.lst (K2.map itR)) := upd_same
  have c4 : upd (upd (upd (upd H lc (.lst [.int l1, .int l2])) la (.lst (K1.map itR))) lb (.lst (K2.map itR))) lo (.lst [.ref la, .ref lb]) lo = some (.lst [.ref la, .ref lb]) := upd_same
  have x5 := ((((hx.grow hc (.lst [.int l1, .int l2])).grow ha (.lst (K1.map itR))).grow hb (.lst (K2.map itR))).grow ho (.lst [.ref la, .ref lb])).grow hf (.lst [])
  have x5' := x5.less (Z := fun b => Y b ∨ b ∈ [lc, la, lb, lo, fc]) (fun b hb => by
    rcases hb with hb | hb
    · exact .inl (.inl (.inl (.inl (.inl hb))))
    · simp only [List.mem_cons, List.not_mem_nil, or_false] at hb
      rcases hb with z | z | z | z | z
      · exact .inl (.inl (.inl (.inl (.inr z))))
      · exact .inl (.inl (.inl (.inr z)))
      · exact .inl (.inl (.inr z))
      · exact .inl (.inr z)
      · exact .inr z) fun b hb => .inl (hx.xy b hb)
  have ha0 := s1.free ha
  have hb0 := (s1.trans s2).free hb
  have ho0 := ((s1.trans s2).trans s3).free ho
  have hf0 := (((s1.trans s2).trans s3).trans s4).free hf
  refine ⟨⟨?_, fun b hm => ?_⟩, ⟨.of_same (h0.trans ((((s1.trans s2).trans s3).trans s4).trans s5)), x5', ?_, ?_, ?_, ?_, upd_same, fun x hx => ?_, fun x hx => ?_, fun x hx => nomatch hx⟩⟩
  · simp only [List.nodup_cons, List.mem_cons, List.not_mem_nil, not_or, or_false, not_false_eq_true, List.nodup_nil, and_true]
    exact ⟨⟨ne_of_none c1 ha, ne_of_none (s2 _ _ c1) hb, ne_of_none (s3 _ _ (s2 _ _ c1)) ho, ne_of_none (s4 _ _ (s3 _ _ (s2 _ _ c1))) hf⟩, ⟨ne_of_none c2 hb, ne_of_none (s3 _ _ c2) ho, ne_of_none (s4 _ _ (s3 _ _ c2)) hf⟩, ⟨ne_of_none c3 ho, ne_of_none (s4 _ _ c3) hf⟩, ne_of_none c4 hf⟩
  · have hn : H b = none := by
      simp only [List.mem_cons, List.not_mem_nil, or_false] at hm
      rcases hm with z | z | z | z | z <;> rw [z] <;> assumption
    exact ⟨hx.newX hn, .inr hm, h0.free hn⟩
  · exact s5 _ _ (s4 _ _ (s3 _ _ (s2 _ _ c1)))
  · exact s5 _ _ (s4 _ _ (s3 _ _ c2))
  · exact s5 _ _ (s4 _ _ c3)
  · exact s5 _ _ c4
  · exact (i1 x hx).ts (.of_same ((((s1.trans s2).trans s3).trans s4).trans s5))
  · exact (i2 x hx).ts (.of_same ((((s1.trans s2).trans s3).trans s4).trans s5))
end
section
variable {P : Program} {w : World} {K : PySem.W.Frag} {mg : Str → Option Value} {base : Heap}
theorem SW.down {m c : Nat} {l : Int} {K : List Itm} (h : SW (m + 1) c l K) : SW m c l K := ⟨h.pos, h.or.imp id fun ⟨a, b, q⟩ => ⟨by omega, b, q⟩⟩
abbrev wI (x : Itm) : Int := x.w
theorem ok_Weighted_merge (T : Tx K mg) : CalM P w K mg base 4 (smC K false) "merge" ["self", "other", "dice"] (spSmMerge K false) := by
  obtain ⟨fd, F⟩ := T.d_Weighted_merge
  refine ⟨T.c_Weighted, _, fd, T.m_Weighted_merge, F.binds (ps := ["self", "other", "dice"]) fun _ _ _ _ _ _ us hl => match us, hl with | [_, _, _], _ => rfl, F.ok sc_Weighted_merge (fun vs H Q E h => ?_) (fun cdv A outer s H vs Q E hr h => ?_)⟩
  · obtain ⟨d, Y, a, c, dx, b, c', dx', r, A, B, s, t, e, rows, rfl, _⟩ := h
    rfl
  · obtain ⟨d, Y, a, c, dx, b, c', dx', r, A, B, s, t, e, rows, rfl, hs, ht, hu, hr2s, oA, oB, iA, iB, hl, hk, nx1, nx2, X, hF, q⟩ := h
    have cl := T.c_Weighted
    have nd := sc_Weighted_merge.nd
    have us : s.un = false := oA.un.trans hu
    have ut : t.un = false := oB.un.trans hu
    have sz : s.size = t.size := oA.size.trans oB.size.symm
    have wA := oA.sw iA hu
    have wB := oB.sw iB hu
    have lA := oA.len
    have lB := oB.len
    rw [← oA.size] at wA wB
    obtain ⟨su, ss, st, sk⟩ := s
    obtain ⟨tu, ts, tt, tk⟩ := t
    have us : su = false := us
    have ut : tu = false := ut
    have sz : ss = ts := sz
    subst us ut sz
    rw [List.map_append] at hk
    have hdk : ∀ x ∈ sk, ∀ y ∈ tk, x.key ≠ y.key := fun x hx y hy z => (List.nodup_append.mp hk).2.2 _ (List.mem_map.mpr ⟨x, hx, rfl⟩) _ (List.mem_map.mpr ⟨y, hy, rfl⟩) z
    have hskl : sk.length ≤ 100 := by
      have : sk.length = min r.2 A.length := lA
      omega
    refine ⟨_, pss_cons (ps_expr (pe_m (pv 0) (ok_Weighted_check T) hr (pa_cons (pv 1) pa_nil)))
      (pss_cons (ps_set (i := 3) nd rfl (.inl rfl) (pe_lst (pa_cons (pe_fld (pv 0) rfl) (pa_cons (pe_fld (pv 1) rfl) pa_nil))))
      (pss_cons (ps_set (i := 4) nd rfl (.inl rfl) (pe_lst (pa_cons (pe_callTy call_list_of (by rfl) T.f_list (by decide +kernel) (pa_cons (pe_fld (pv 0) rfl) pa_nil)) (pa_cons (pe_callTy call_list_of (by rfl) T.f_list (by decide +kernel) (pa_cons (pe_fld (pv 1) rfl) pa_nil)) pa_nil))))
      (pss_cons (ps_set (i := 5) nd rfl (.inl rfl) (pe_lst pa_nil))
      (pss_cons (ps_while PassesOwn.never (PW.pt (pw_and (pt_cmpR op_lt (pe_callB call_len_seq (by rfl) T.f_len PySem.boot_len (pa_cons (pv 5) pa_nil)) (pe_fld (pv 0) rfl) (nomark _))
          (pw_and1 (pt_cmpR op_gt (pe_callB (cr_sum rfl) (by rfl) T.f_sum (by decide +kernel) (pa_cons (pv 3) pa_nil)) pe_int (nomark _)))))
        (pss_cons (ps_set (i := 6) nd rfl (.inl rfl) (pe_m (pv 2) (ok_pick T) hr (pa_cons (pe_callTy call_list_of (by rfl) T.f_list (by decide +kernel) (pa_cons (pv 3) pa_nil)) pa_nil)))
        (pss_cons (ps_set (i := 7) nd rfl (.inl rfl) (pe_bm PySem.F.plainAttrs_list PySem.F.slot_list_pop PySem.F.type_list_pop mt_popAt (pe_ix ix_list (pv 4) (pv 6) fun _ _ => rfl) (pa_cons pe_int pa_nil)))
        (pss_cons (ps_expr (pe_bm PySem.F.plainAttrs_list PySem.F.slot_list_append PySem.F.type_list_append mt_append (pv 5) (pa_cons (pv 7) pa_nil)))
        (pss_one (ps_augS (pv 3) (pv 6) (pg_listK K rfl) (pe_ix ix_tup (pv 7) pe_int fun _ _ => rfl) ip_sub set_list))))))
      (pss_one (ps_ret (pe_mk' (ok_Weighted_init T) hr rfl (pa_cons (pe_fld (pv 0) rfl) (pa_cons (pe_op op_add (pe_fld (pv 0) rfl) (pe_fld (pv 1) rfl)) (pa_cons (pv 5) pa_nil)))))))))), ?_⟩
    -- self.check(other)
    refine ⟨_, rfl, a, dx, _, rfl, hs.ins, sm_no _ _ _ _ _ (by decide +kernel), _, rfl, a, c, dx, b, c', dx', _, _, rfl, hs, ht, rfl, rfl, rfl, hdk, hskl, fun H1 s1 => ?_⟩
    have hs1 := hs.same s1
    have ht1 := ht.same s1
    -- left, lists, found
    refine ⟨_, rfl, a, _, dx, _, _, rfl, hs1.ins, cl, T.n_Weighted_total, sm_total _ _ _, _, rfl, b, _, dx', _, _, rfl, ht1.ins, cl, T.n_Weighted_total, sm_total _ _ _, (by show 2 ≤ sizeLine; decide), fun lc hlc => ?_⟩
    have s2 := same_new (o := .lst [.int st, .int tt]) hlc
    have hs2 := hs1.same s2
    have ht2 := ht1.same s2
    refine ⟨_, rfl, a, _, dx, _, _, rfl, hs2.ins, cl, T.n_Weighted_kept, sm_kept _ _ _ _, c, _, rfl, .inl (SqL.of hs2.lst), fun la hla => ?_⟩
    have s3 := same_new (o := .lst (sk.map itR)) hla
    have ht3 := ht2.same s3
    refine ⟨_, rfl, b, _, dx', _, _, rfl, ht3.ins, cl, T.n_Weighted_kept, sm_kept _ _ _ _, c', _, rfl, .inl (SqL.of ht3.lst), fun lb hlb => ⟨(by show 2 ≤ sizeLine; decide), fun lo hlo => ⟨Nat.zero_le _, fun fc hfc => ?_⟩⟩⟩
    obtain ⟨S, C0⟩ := mc_start (X.same s1) s1 (K1 := sk) (K2 := tk) hs1.its ht1.its hlc hla hlb hlo hfc
    revert C0
    generalize upd (upd (upd (upd (upd H1 lc _) la _) lb _) lo _) fc _ = H5
    intro C0
    have hF0 : Fit (mW wI ss st tt sk tk) e := ((fit_bind _ _ _).mp hF).1
    have hrun : run (mergeT srtI ⟨false, ss, st, sk⟩ ⟨false, ss, tt, tk⟩) e = (⟨false, ss, st + tt, (run (mW wI ss st tt sk tk) e).1⟩, (run (mW wI ss st tt sk tk) e).2) := run_bind _ _ _
    rw [hrun] at q
    refine ⟨fun m σ H' => ∃ (o6 o7 : Option V) (l1 l2 : Int) (K1 K2 acc : List Itm) (c1 c2 : Nat) (e1 : ES), σ = [some (.ref a), some (.ref b), some (.ref d.p), some (.ref lc), some (.ref lo), some (.ref fc), o6, o7] ∧ MC K d (fun b => Y b ∨ b ∈ [lc, la, lb, lo, fc]) H H' lc la lb lo fc l1 l2 K1 K2 acc e1 rows ∧
        m + acc.length = ss ∧ SW m c1 l1 K1 ∧ SW m c2 l2 K2 ∧ Fit (mW wI m l1 l2 K1 K2) e1 ∧ run (mW wI ss st tt sk tk) e = (acc ++ (run (mW wI m l1 l2 K1 K2) e1).1, (run (mW wI m l1 l2 K1 K2) e1).2),
      ⟨ss, none, none, st, tt, sk, tk, [], _, _, e, rfl, C0, rfl, wA, wB, hF0, rfl⟩, ?_⟩
    rintro m σ H' ⟨o6, o7, l1, l2, K1, K2, acc, c1, c2, e1, rfl, C, hm, w1, w2, hF1, hr1⟩
    have hsH := hs.kp C.kp nx1.1 nx1.2
    have htH := ht.kp C.kp nx2.1 nx2.2
    -- the end
    have fin : run (mW wI m l1 l2 K1 K2) e1 = ([], e1) → tRet (tMake (smC K false) (spSmInit K false) [] E0 (tCons (tFld K (tVar 0) "size") (tCons (tOp (rI0 fun i j => .int (i + j)) (tFld K (tVar 0) "total") (tFld K (tVar 1) "total")) (tCons (tVar 5) tNil)))) { nx := fun _ H' => Q .non H', rt := Q } [some (.ref a), some (.ref b), some (.ref d.p), some (.ref lc), some (.ref lo), some (.ref fc), o6, o7] H' := fun he => by
      rw [he, List.append_nil] at hr1
      rw [hr1] at q
      refine ⟨_, rfl, a, _, dx, _, _, rfl, hsH.ins, cl, T.n_Weighted_size, sm_size _ _ _ _, _, rfl, a, _, dx, _, _, rfl, hsH.ins, cl, T.n_Weighted_total, sm_total _ _ _, _, rfl, b, _, dx', _, _, rfl, htH.ins, cl, T.n_Weighted_total, sm_total _ _ _, st, tt, rfl, rfl, _, rfl, fun p dp hp hdp hne => ?_⟩
      have sm := made_same (C := smC K false) hp hdp hne
      have nfp : fc ≠ p := ne_of_none C.hf hp
      refine ⟨p, dp, fc, ss, st + tt, acc, rfl, upd_same, SqL.of (sm _ _ C.hf), fun x hx => (C.i3 x hx).ts (.of_same sm), nfp, fun z H'' hz oo sA => ?_⟩
      have s6 : Same H' H'' := fun g o eg => oo g o (sm g o eg) (ne_of_none eg hp)
      have hxn := C.ex.newX (a := p) hp
      have hzn : H' z = none := sm.free hz
      exact ⟨rfl, q p z dp H'' (C.kp.free hp hxn) (C.kp.free hzn (C.ex.newX hzn)) (C.kp.trans (.of_same s6)) sA ((C.ex.same s6).less (fun g hg => .inl hg) X.xy)⟩
    refine ⟨_, rfl, fc, _, rfl, .inl (SqL.of C.hf), _, rfl, a, _, dx, _, _, rfl, hsH.ins, cl, T.n_Weighted_size, sm_size _ _ _ _, _, _, rfl, rfl, _, rfl, ?_⟩
    rw [List.length_map]
    refine ite2 (fun hlt => ?_) (fun hlt => ?_)
    · have hlt := of_decide_eq_true hlt
      obtain ⟨m, rfl⟩ : ∃ m', m = m' + 1 := ⟨m - 1, by omega⟩
      refine ⟨_, rfl, lc, [l1, l2], rfl, SqL.of C.hc, _, _, rfl, rfl, _, rfl, ?_⟩
      rw [mW_succ] at hF1 hr1 fin
      have esum : ([l1, l2] : List Int).sum = l1 + l2 := by show l1 + (l2 + 0) = _; omega
      rw [esum]
      refine ite2 (fun hpos => ?_) (fun hpos => ?_)
      · have hpos := of_decide_eq_true hpos
        rw [if_pos hpos] at hF1 hr1
        clear fin
        obtain ⟨hW, hz, hpl, hv, hF2⟩ := hF1
        have hp := pair_pos (pk_pos hW hv)
        have hr2 : run (mW wI ss st tt sk tk) e = (acc ++ (run (two (wStep K1 fun x K => mW wI m (l1 - wI x) l2 K K2) (wStep K2 fun x K => mW wI m l1 (l2 - wI x) K1 K) (pkN [l1, l2] e1)) (pkE [l1, l2] e1)).1, (run (two (wStep K1 fun x K => mW wI m (l1 - wI x) l2 K K2) (wStep K2 fun x K => mW wI m l1 (l2 - wI x) K1 K) (pkN [l1, l2] e1)) (pkE [l1, l2] e1)).2) := hr1
        clear hr1
        have hlen : acc.length ≤ 4 := by
          have h0 : ss = r.2 := oA.size
          omega
        refine ⟨fun σ' H'' => ∃ m', m' < m + 1 ∧ ∃ (o6 o7 : Option V) (l1 l2 : Int) (K1 K2 acc : List Itm) (c1 c2 : Nat) (e1 : ES), σ' = [some (.ref a), some (.ref b), some (.ref d.p), some (.ref lc), some (.ref lo), some (.ref fc), o6, o7] ∧ MC K d (fun b => Y b ∨ b ∈ [lc, la, lb, lo, fc]) H H'' lc la lb lo fc l1 l2 K1 K2 acc e1 rows ∧
          m' + acc.length = ss ∧ SW m' c1 l1 K1 ∧ SW m' c2 l2 K2 ∧ Fit (mW wI m' l1 l2 K1 K2) e1 ∧ run (mW wI ss st tt sk tk) e = (acc ++ (run (mW wI m' l1 l2 K1 K2) e1).1, (run (mW wI m' l1 l2 K1 K2) e1).2), fun σ' H' h' => h', ?_⟩
        -- side = dice.pick(list(left))
        obtain ⟨dxE, chE, psE, rsE, XC⟩ := C.ex
        refine ⟨_, rfl, d.p, dxE, _, rfl, XC.ins, ex_no _ _ _ _ _ _ _ _ (by decide +kernel), _, rfl, lc, _, rfl, .inl (SqL.of C.hc), fun l hl => ?_⟩
        have Cl := C.same S (same_new (o := .lst [.int l1, .int l2]) hl)
        refine ⟨d, _, l, [l1, l2], e1, rows, rfl, Cl.ex, SqL.of upd_same, C.ex.newX hl, hW, hz, hpl, hv, fun H2 k2 X2 => ?_⟩
        have C2 := Cl.pick S k2 X2
        generalize pkE [l1, l2] e1 = e2 at hF2 hr2 C2 X2
        generalize pkN [l1, l2] e1 = n at hF2 hr2 hp ⊢
        rcases hp with ⟨hn, hp⟩ | ⟨hn, hp⟩
        · skip
          obtain ⟨x, K', rfl, hc1, w1'⟩ := w1.take hp
          subst hn
          have hF3 := (fit_bind _ _ _).mp hF2
          have hr3 : run (mW wI ss st tt sk tk) e = (acc ++ x :: (run (mW wI m (l1 - wI x) l2 K' K2) e2).1, (run (mW wI m (l1 - wI x) l2 K' K2) e2).2) := by
            rw [hr2]
            show (acc ++ (run ((mW wI m (l1 - wI x) l2 K' K2).bind fun o => .ret (x :: o)) e2).1, (run ((mW wI m (l1 - wI x) l2 K' K2).bind fun o => .ret (x :: o)) e2).2) = _
            rw [run_bind]
            rfl
          -- item = lists[side].pop(0)
          refine ⟨_, rfl, _, rfl, lo, _, _, _, rfl, rfl, SqL.of C2.ho, (atI0 : atI ([.ref la, .ref lb] : List V) ((0 : Nat) : Int) = some (.ref la)), .inl ⟨rfl, _, SqL.of C2.ha⟩, la, _, 0, 0, itR x, rfl, rfl, C2.ha, by decide, by decide, by simp [seqIndex?], rfl, ?_⟩
          have C3 := C2.setA S (K' := K') fun y hy => List.mem_cons_of_mem _ hy
          have hx3 : ItAt K (upd H2 la (.lst (K'.map itR))) x := (C2.i1 x List.mem_cons_self).ts (ts_lst C2.ha)
          have C4 := C3.setF S hx3
          -- found.append(item)
          refine ⟨_, rfl, .inl ⟨rfl, _, SqL.of C3.hf⟩, _, rfl, fc, _, _, rfl, rfl, C3.hf, (by rw [List.length_map, sizeLine_eq]; omega), ?_⟩
          -- left[side] -= item[2]
          have C5 := C4.setC S (l1 - x.w) l2
          refine ⟨_, rfl, _, rfl, lc, _, _, _, rfl, rfl, SqL.of C4.hc, (atI0 : atI ([.int l1, .int l2] : List V) ((0 : Nat) : Int) = some (.int l1)), _, rfl, x.a, _, 2, _, rfl, rfl, C4.i3 x (by simp), atI2, _, _, rfl, rfl, lc, _, _, 0, rfl, rfl, C4.hc, (show ixN 2 (0 : Int) = some 0 from by decide +kernel), ?_⟩
          exact ⟨m, Nat.lt_succ_self m, _, _, l1 - x.w, l2, K', K2, acc ++ [x], c1 - 1, c2, e2, rfl, C5, by rw [List.length_append, List.length_singleton]; omega, w1', w2.down, hF3.1, by rw [hr3, List.append_assoc]; rfl⟩
        · skip
          obtain ⟨x, K', rfl, hc1, w1'⟩ := w2.take hp
          subst hn
          have hF3 := (fit_bind _ _ _).mp hF2
          have hr3 : run (mW wI ss st tt sk tk) e = (acc ++ x :: (run (mW wI m l1 (l2 - wI x) K1 K') e2).1, (run (mW wI m l1 (l2 - wI x) K1 K') e2).2) := by
            rw [hr2]
            show (acc ++ (run ((mW wI m l1 (l2 - wI x) K1 K').bind fun o => .ret (x :: o)) e2).1, (run ((mW wI m l1 (l2 - wI x) K1 K').bind fun o => .ret (x :: o)) e2).2) = _
            rw [run_bind]
            rfl
          -- item = lists[side].pop(0)
          refine ⟨_, rfl, _, rfl, lo, _, _, _, rfl, rfl, SqL.of C2.ho, (atI1 : atI ([.ref la, .ref lb] : List V) ((1 : Nat) : Int) = some (.ref lb)), .inl ⟨rfl, _, SqL.of C2.hb⟩, lb, _, 0, 0, itR x, rfl, rfl, C2.hb, by decide, by decide, by simp [seqIndex?], rfl, ?_⟩
          have C3 := C2.setB S (K' := K') fun y hy => List.mem_cons_of_mem _ hy
          have hx3 : ItAt K (upd H2 lb (.lst (K'.map itR))) x := (C2.i2 x List.mem_cons_self).ts (ts_lst C2.hb)
          have C4 := C3.setF S hx3
          -- found.append(item)
          refine ⟨_, rfl, .inl ⟨rfl, _, SqL.of C3.hf⟩, _, rfl, fc, _, _, rfl, rfl, C3.hf, (by rw [List.length_map, sizeLine_eq]; omega), ?_⟩
          -- left[side] -= item[2]
          have C5 := C4.setC S l1 (l2 - x.w)
          refine ⟨_, rfl, _, rfl, lc, _, _, _, rfl, rfl, SqL.of C4.hc, (atI1 : atI ([.int l1, .int l2] : List V) ((1 : Nat) : Int) = some (.int l2)), _, rfl, x.a, _, 2, _, rfl, rfl, C4.i3 x (by simp), atI2, _, _, rfl, rfl, lc, _, _, 1, rfl, rfl, C4.hc, (show ixN 2 (1 : Int) = some 1 from by decide +kernel), ?_⟩
          exact ⟨m, Nat.lt_succ_self m, _, _, l1, l2 - x.w, K1, K', acc ++ [x], c1, c2 - 1, e2, rfl, C5, by rw [List.length_append, List.length_singleton]; omega, w1.down, w1', hF3.1, by rw [hr3, List.append_assoc]; rfl⟩
      · exact fin (by rw [if_neg fun z => hpos (decide_eq_true z)]; rfl)
    · have m0 : m = 0 := by
        have : ¬ (acc.length : Int) < (ss : Int) := fun z => hlt (decide_eq_true z)
        omega
      subst m0
      exact fin rfl
end
end Sam

set_option maxHeartbeats 4000000
set_option pp.maxSteps 400
namespace Sam
open PySem PySem.Spec PyProof.Rows L2
theorem rep_flat (n : Nat) : (List.replicate n [V.int 1]).flatten = (List.replicate n (1 : Int)).map V.int := by
  induction n with
  | zero => rfl
  | succ n ih =>
    rw [List.replicate_succ, List.flatten_cons, ih, List.replicate_succ, List.map_cons]
    rfl
theorem erase_map {α β : Type} (f : α → β) : ∀ (l : List α) (i : Nat), (l.map f).eraseIdx i = (l.eraseIdx i).map f
  | [], _ => rfl
  | _ :: _, 0 => rfl
  | x :: l, i + 1 => by
    show f x :: (l.map f).eraseIdx i = f x :: (l.eraseIdx i).map f
    rw [erase_map f l i]
theorem mem_erase {α : Type} : ∀ (l : List α) (i : Nat) (x : α), x ∈ l.eraseIdx i → x ∈ l := fun l i x h => (List.eraseIdx_sublist l i).mem h
theorem SU.le {m c : Nat} {K : List Itm} (h : SU m c K) : K.length ≤ c := h.elim Nat.le_of_eq fun h => Nat.le_of_lt h.2
theorem len_lt {n : Nat} (h : n ≤ 100) : n < sizeLine := by rw [sizeLine_eq]; omega
theorem len_b {n : Nat} (h : n ≤ 4) : -(2 ^ 63) ≤ (n : Int) ∧ (n : Int) < 2 ^ 63 ∧ 1 * (n : Int).toNat ≤ sizeLine := by rw [sizeLine_eq]; omega
theorem len_b2 {j n : Nat} (h : j < n) (h4 : n ≤ 4) : -(2 ^ 63) ≤ (j : Int) ∧ (j : Int) < 2 ^ 63 ∧ seqIndex? (j : Int) n = some j := ⟨by omega, by omega, by rw [seqIndex_of (by omega) (by omega)]; rfl⟩
theorem SU.down {m c : Nat} {K : List Itm} (h : SU (m + 1) c K) : SU m c K := h.imp id fun ⟨a, b⟩ => ⟨by omega, b⟩
theorem SU.take {m c : Nat} {K : List Itm} (h : SU (m + 1) c K) {i : Nat} (hi : i < K.length) : 1 ≤ c ∧ SU m (c - 1) (K.eraseIdx i) := by
  have e := List.length_eraseIdx_of_lt hi
  unfold SU at *
  omega
section
variable {P : Program} {w : World} {K : PySem.W.Frag} {mg : Str → Option Value} {base : Heap}
theorem ok_Uniform_merge (T : Tx K mg) : CalM P w K mg base 4 (smC K true) "merge" ["self", "other", "dice"] (spSmMerge K true) := by
  obtain ⟨fd, F⟩ := T.d_Uniform_merge
  refine ⟨T.c_Uniform, _, fd, T.m_Uniform_merge, F.binds (ps := ["self", "other", "dice"]) fun _ _ _ _ _ _ us hl => match us, hl with | [_, _, _], _ => rfl, F.ok sc_Uniform_merge (fun vs H Q E h => ?_) (fun cdv A outer s H vs Q E hr h => ?_)⟩
  · obtain ⟨d, Y, a, c, dx, b, c', dx', r, A, B, s, t, e, rows, rfl, _⟩ := h
    rfl
  · obtain ⟨d, Y, a, c, dx, b, c', dx', ⟨ru, rk⟩, A, B, s, t, e, rows, rfl, hs, ht, hu, hr2s, oA, oB, iA, iB, hl, hk, nx1, nx2, X, hF, q⟩ := h
    have cl := T.c_Uniform
    have hu : ru = true := hu
    subst hu
    replace hr2s : rk ≤ 2 := hr2s
    have nd := sc_Uniform_merge.nd
    have us : s.un = true := oA.un
    have ut : t.un = true := oB.un
    have sz : s.size = t.size := oA.size.trans oB.size.symm
    have lA := oA.len
    have lB := oB.len
    have tA := oA.tot
    have tB := oB.tot
    have s0 := oA.size
    rw [sum_one] at tA tB
    obtain ⟨su, ss, st, sk⟩ := s
    obtain ⟨tu, ts, tt, tk⟩ := t
    replace us : su = true := us
    replace ut : tu = true := ut
    replace sz : ss = ts := sz
    replace s0 : ss = rk := s0
    subst us ut sz
    replace tA : st = (A.length : Int) := tA
    replace tB : tt = (B.length : Int) := tB
    replace lA : sk.length = min rk A.length := lA
    replace lB : tk.length = min rk B.length := lB
    subst tA tB
    have hk0 := hk
    rw [List.map_append] at hk
    have hdk : ∀ x ∈ sk, ∀ y ∈ tk, x.key ≠ y.key := fun x hx y hy z => (List.nodup_append.mp hk).2.2 _ (List.mem_map.mpr ⟨x, hx, rfl⟩) _ (List.mem_map.mpr ⟨y, hy, rfl⟩) z
    have hskl : sk.length ≤ 100 := by omega
    refine ⟨_, pss_cons (ps_expr (pe_m (pv 0) (ok_Uniform_check T) hr (pa_cons (pv 1) pa_nil)))
      (pss_cons (ps_set (i := 3) nd rfl (.inl rfl) (pe_lst (pa_cons (pe_fld (pv 0) rfl) (pa_cons (pe_fld (pv 1) rfl) pa_nil))))
      (pss_cons (ps_set (i := 4) nd rfl (.inl rfl) (pe_lst (pa_cons (pe_callTy call_list_of (by rfl) T.f_list (by decide +kernel) (pa_cons (pe_fld (pv 0) rfl) pa_nil)) (pa_cons (pe_callTy call_list_of (by rfl) T.f_list (by decide +kernel) (pa_cons (pe_fld (pv 1) rfl) pa_nil)) pa_nil))))
      (pss_cons (ps_set (i := 5) nd rfl (.inl rfl) (pe_lst pa_nil))
      (pss_cons (ps_for PassesOwn.never rfl (pi_range1 rfl T.f_range (pa_cons (pe_callB (call_min2 rfl) (by rfl) T.f_min (by decide +kernel) (pa_cons (pe_fld (pv 0) rfl) (pa_cons (pe_op op_add (pe_fld (pv 0) rfl) (pe_fld (pv 1) rfl)) pa_nil))) pa_nil)) (pg_name (i := 6) nd rfl (.inl rfl))
        (pss_cons (ps_set (i := 7) nd rfl (.inl rfl) (pe_m (pv 2) (ok_pick T) hr (pa_cons (pe_callTy call_list_of (by rfl) T.f_list (by decide +kernel) (pa_cons (pv 3) pa_nil)) pa_nil)))
        (pss_cons (ps_set (i := 8) nd rfl (.inl rfl) (pe_m (pv 2) (ok_pick T) hr (pa_cons (pe_op op_rep (pe_lst (pa_cons pe_int pa_nil)) (pe_callB call_len_seq (by rfl) T.f_len PySem.boot_len (pa_cons (pe_ix ix_list (pv 4) (pv 7) fun _ _ => rfl) pa_nil))) pa_nil)))
        (pss_cons (ps_expr (pe_bm PySem.F.plainAttrs_list PySem.F.slot_list_append PySem.F.type_list_append mt_append (pv 5) (pa_cons (pe_bm PySem.F.plainAttrs_list PySem.F.slot_list_pop PySem.F.type_list_pop mt_popAt (pe_ix ix_list (pv 4) (pv 7) fun _ _ => rfl) (pa_cons (pv 8) pa_nil)) pa_nil)))
        (pss_one (ps_augS (pv 3) (pv 7) (pg_listK K rfl) pe_int ip_sub set_list))))))
      (pss_one (ps_ret (pe_mk' (ok_Uniform_init T) hr rfl (pa_cons (pe_fld (pv 0) rfl) (pa_cons (pe_op op_add (pe_fld (pv 0) rfl) (pe_fld (pv 1) rfl)) (pa_cons (pe_callB (cr_sortD hr.units) (by rfl) T.f_sorted (by decide +kernel) (pa_cons (pv 5) pa_nil)) pa_nil)))))))))), ?_⟩
    -- self.check(other)
    refine ⟨_, rfl, a, dx, _, rfl, hs.ins, sm_no _ _ _ _ _ (by decide +kernel), _, rfl, a, c, dx, b, c', dx', _, _, rfl, hs, ht, rfl, rfl, rfl, hdk, hskl, fun H1 s1 => ?_⟩
    have hs1 := hs.same s1
    have ht1 := ht.same s1
    -- seen, lists, found
    refine ⟨_, rfl, a, _, dx, _, _, rfl, hs1.ins, cl, T.n_Uniform_seen, sm_seen _ _ _, _, rfl, b, _, dx', _, _, rfl, ht1.ins, cl, T.n_Uniform_seen, sm_seen _ _ _, (by show 2 ≤ sizeLine; decide), fun lc hlc => ?_⟩
    have s2 := same_new (o := .lst [.int (A.length : Int), .int (B.length : Int)]) hlc
    have hs2 := hs1.same s2
    have ht2 := ht1.same s2
    refine ⟨_, rfl, a, _, dx, _, _, rfl, hs2.ins, cl, T.n_Uniform_kept, sm_kept _ _ _ _, c, _, rfl, .inl (SqL.of hs2.lst), fun la hla => ?_⟩
    have s3 := same_new (o := .lst (sk.map itR)) hla
    have ht3 := ht2.same s3
    refine ⟨_, rfl, b, _, dx', _, _, rfl, ht3.ins, cl, T.n_Uniform_kept, sm_kept _ _ _ _, c', _, rfl, .inl (SqL.of ht3.lst), fun lb hlb => ⟨(by show 2 ≤ sizeLine; decide), fun lo hlo => ⟨Nat.zero_le _, fun fc hfc => ?_⟩⟩⟩
    obtain ⟨S, C0⟩ := mc_start (X.same s1) s1 (K1 := sk) (K2 := tk) hs1.its ht1.its hlc hla hlb hlo hfc
    revert C0
    generalize upd (upd (upd (upd (upd H1 lc _) la _) lb _) lo _) fc _ = H5
    intro C0
    have e0 : (min ss ((A.length : Int) + B.length).toNat) = min rk (A.length + B.length) := by rw [s0, show ((A.length : Int) + B.length).toNat = A.length + B.length by omega]
    have hF0 : Fit (mU (min rk (A.length + B.length)) A.length B.length sk tk) e := by
      have z := ((fit_bind _ _ _).mp hF).1
      rw [e0] at z
      exact z
    have hrun : run (mergeT srtI ⟨true, ss, A.length, sk⟩ ⟨true, ss, B.length, tk⟩) e = (⟨true, ss, A.length + B.length, srtI (run (mU (min rk (A.length + B.length)) A.length B.length sk tk) e).1⟩, (run (mU (min rk (A.length + B.length)) A.length B.length sk tk) e).2) := by
      rw [← e0]
      exact run_bind _ _ _
    rw [hrun] at q
    have uA : SU (min rk (A.length + B.length)) A.length sk := by unfold SU; omega
    have uB : SU (min rk (A.length + B.length)) B.length tk := by unfold SU; omega
    have gd := (good_mU (min rk (A.length + B.length)) A.length B.length sk tk uA uB (by omega) (by omega) (by omega) (by omega)).1
    have gr := good_run _ e gd hF0
    have hN2 : min rk (A.length + B.length) ≤ 2 := Nat.le_trans (Nat.min_le_left _ _) hr2s
    generalize hN : min rk (A.length + B.length) = N at *
    have hsH := hs.kp C0.kp nx1.1 nx1.2
    have htH := ht.kp C0.kp nx2.1 nx2.2
    refine ⟨_, rfl, a, _, dx, _, _, rfl, hsH.ins, cl, T.n_Uniform_size, sm_size _ _ _ _, _, rfl, a, _, dx, _, _, rfl, hsH.ins, cl, T.n_Uniform_seen, sm_seen _ _ _, _, rfl, b, _, dx', _, _, rfl, htH.ins, cl, T.n_Uniform_seen, sm_seen _ _ _, _, _, rfl, rfl, _, _, rfl, ?_⟩
    have en : (if (A.length : Int) + B.length < (ss : Int) then (A.length : Int) + B.length else (ss : Int)) = (N : Int) := by
      rw [← hN, s0]
      split <;> omega
    rw [en]
    refine ⟨(N : Int), rfl, by omega, by omega, ?_⟩
    rw [Int.toNat_natCast]
    refine for_range (lo := 0) (n := N) (fun i σ H' => ∃ (o6 o7 o8 : Option V) (K1 K2 acc : List Itm) (c1 c2 : Nat) (e1 : ES), σ = [some (.ref a), some (.ref b), some (.ref d.p), some (.ref lc), some (.ref lo), some (.ref fc), o6, o7, o8] ∧ MC K d (fun b => Y b ∨ b ∈ [lc, la, lb, lo, fc]) H H' lc la lb lo fc c1 c2 K1 K2 acc e1 rows ∧
        i ≤ N ∧ acc.length = i ∧ SU (N - i) c1 K1 ∧ SU (N - i) c2 K2 ∧ c1 + c2 ≤ 4 ∧ Fit (mU (N - i) c1 c2 K1 K2) e1 ∧ run (mU N A.length B.length sk tk) e = (acc ++ (run (mU (N - i) c1 c2 K1 K2) e1).1, (run (mU (N - i) c1 c2 K1 K2) e1).2))
      ⟨none, none, none, sk, tk, [], A.length, B.length, e, rfl, C0, Nat.zero_le _, rfl, uA, uB, hl, hF0, rfl⟩ ?_ ?_
    · rintro i σ H' hi ⟨o6, o7, o8, K1, K2, acc, c1, c2, e1, rfl, C, _, hal, u1, u2, hc4, hF1, hr1⟩
      obtain ⟨m, hm⟩ : ∃ m, N - i = m + 1 := ⟨N - i - 1, by omega⟩
      have hm2 : N - (i + 1) = m := by omega
      rw [hm, mU_succ] at hF1 hr1
      rw [hm] at u1 u2
      rw [hm2]
      obtain ⟨hW, hz, hpl, hv, hF2⟩ := hF1
      have hp := pair_pos (pk_pos hW hv)
      have hr2 : run (mU N A.length B.length sk tk) e = (acc ++ (run (two (uStep K1 fun _ K => mU m ((c1 : Int) - 1) c2 K K2) (uStep K2 fun _ K => mU m c1 ((c2 : Int) - 1) K1 K) (pkN [(c1 : Int), (c2 : Int)] e1)) (pkE [(c1 : Int), (c2 : Int)] e1)).1, (run (two (uStep K1 fun _ K => mU m ((c1 : Int) - 1) c2 K K2) (uStep K2 fun _ K => mU m c1 ((c2 : Int) - 1) K1 K) (pkN [(c1 : Int), (c2 : Int)] e1)) (pkE [(c1 : Int), (c2 : Int)] e1)).2) := hr1
      clear hr1
      -- side = dice.pick(list(seen))
      obtain ⟨dxE, chE, psE, rsE, XC⟩ := C.ex
      refine ⟨_, rfl, d.p, dxE, _, rfl, XC.ins, ex_no _ _ _ _ _ _ _ _ (by decide +kernel), _, rfl, lc, _, rfl, .inl (SqL.of C.hc), fun l hl => ?_⟩
      have Cl := C.same S (same_new (o := .lst [.int (c1 : Int), .int (c2 : Int)]) hl)
      refine ⟨d, _, l, [(c1 : Int), (c2 : Int)], e1, rows, rfl, Cl.ex, SqL.of upd_same, C.ex.newX hl, hW, hz, hpl, hv, fun H2 k2 X2 => ?_⟩
      have C2 := Cl.pick S k2 X2
      clear Cl
      generalize pkE [(c1 : Int), (c2 : Int)] e1 = e2 at hF2 hr2 C2 X2
      generalize pkN [(c1 : Int), (c2 : Int)] e1 = n at hF2 hr2 hp ⊢
      rcases hp with ⟨hn, hp⟩ | ⟨hn, hp⟩
      · subst hn
        obtain ⟨hW2, hz2, hpl2, hv2, hF3⟩ := hF2
        have hpp := wAt_rep (pk_pos hW2 hv2)
        have hr3 : run (mU N A.length B.length sk tk) e = (acc ++ (run (match K1[pkN (List.replicate K1.length 1) e2]? with
            | none => .ret []
            | some x => (mU m ((c1 : Int) - 1) c2 (K1.eraseIdx (pkN (List.replicate K1.length 1) e2)) K2).bind fun o => .ret (x :: o)) (pkE (List.replicate K1.length 1) e2)).1, (run (match K1[pkN (List.replicate K1.length 1) e2]? with
            | none => .ret []
            | some x => (mU m ((c1 : Int) - 1) c2 (K1.eraseIdx (pkN (List.replicate K1.length 1) e2)) K2).bind fun o => .ret (x :: o)) (pkE (List.replicate K1.length 1) e2)).2) := hr2
        clear hr2
        -- place = dice.pick([1] * len(lists[side]))
        obtain ⟨dxE, chE, psE, rsE, XC⟩ := C2.ex
        refine ⟨_, rfl, d.p, dxE, _, rfl, XC.ins, ex_no _ _ _ _ _ _ _ _ (by decide +kernel), (by show 1 ≤ sizeLine; decide), fun l1 hl1 => ?_⟩
        have C3 := C2.same S (same_new (o := .lst [.int 1]) hl1)
        refine ⟨_, rfl, _, rfl, lo, _, _, _, rfl, rfl, SqL.of C3.ho, (atI0 : atI ([.ref la, .ref lb] : List V) ((0 : Nat) : Int) = some (.ref la)), la, _, rfl, .inl (SqL.of C3.ha), ?_⟩
        have hk3 : K1.length ≤ 4 := Nat.le_trans u1.le (Nat.le_trans (Nat.le_add_right _ _) hc4)
        refine ⟨l1, _, _, rfl, rfl, upd_same, (by rw [List.length_map]; exact (len_b hk3).1), (by rw [List.length_map]; exact (len_b hk3).2.1), (by rw [List.length_map]; exact (len_b hk3).2.2), fun p hp1 => ?_⟩
        rw [List.length_map, Int.toNat_natCast, rep_flat]
        have C4 := C3.same S (same_new (o := .lst ((List.replicate K1.length (1 : Int)).map V.int)) hp1)
        refine ⟨d, _, p, List.replicate K1.length 1, e2, rows, rfl, C4.ex, SqL.of upd_same, C3.ex.newX hp1, hW2, hz2, hpl2, hv2, fun H3 k3 X3 => ?_⟩
        have C5 := C4.pick S k3 X3
        clear C3 C4 C2
        generalize pkE (List.replicate K1.length 1) e2 = e3 at hF3 hr3 C5 X3
        generalize pkN (List.replicate K1.length 1) e2 = j at hF3 hr3 hpp ⊢
        have hx : K1[j]? = some K1[j] := List.getElem?_eq_getElem hpp
        generalize K1[j] = x at hx
        have ec : (c1 : Int) - 1 = ((c1 - 1 : Nat) : Int) := (Int.natCast_sub (u1.take hpp).1).symm
        rw [hx] at hr3
        have hF4 : Fit ((mU m ((c1 : Int) - 1) c2 (K1.eraseIdx j) K2).bind fun o => .ret (x :: o)) e3 := by
          have z : Fit (match K1[j]? with | none => .ret [] | some x => (mU m ((c1 : Int) - 1) c2 (K1.eraseIdx j) K2).bind fun o => .ret (x :: o)) e3 := hF3
          rw [hx] at z
          exact z
        have hr4 : run (mU N A.length B.length sk tk) e = (acc ++ x :: (run (mU m ((c1 : Int) - 1) c2 (K1.eraseIdx j) K2) e3).1, (run (mU m ((c1 : Int) - 1) c2 (K1.eraseIdx j) K2) e3).2) := by
          rw [hr3]
          show (acc ++ (run ((mU m ((c1 : Int) - 1) c2 (K1.eraseIdx j) K2).bind fun o => .ret (x :: o)) e3).1, (run ((mU m ((c1 : Int) - 1) c2 (K1.eraseIdx j) K2).bind fun o => .ret (x :: o)) e3).2) = _
          rw [run_bind]
          rfl
        have hF5 := ((fit_bind _ _ _).mp hF4).1
        rw [ec] at hF5 hr4
        obtain ⟨hc1, ut⟩ := u1.take hpp
        -- found.append(lists[side].pop(place))
        refine ⟨_, rfl, .inl ⟨rfl, _, SqL.of C5.hf⟩, _, rfl, _, rfl, lo, _, _, _, rfl, rfl, SqL.of C5.ho, (atI0 : atI ([.ref la, .ref lb] : List V) ((0 : Nat) : Int) = some (.ref la)), .inl ⟨rfl, _, SqL.of C5.ha⟩, _, rfl, la, _, (j : Int), j, itR x, rfl, rfl, C5.ha, (len_b2 hpp hk3).1, (len_b2 hpp hk3).2.1, (by rw [List.length_map]; exact (len_b2 hpp hk3).2.2), (by rw [List.getElem?_map, hx]; rfl), ?_⟩
        rw [erase_map]
        have C6 := C5.setA S (K' := K1.eraseIdx j) fun y hy => mem_erase _ _ _ hy
        have hx3 : ItAt K (upd H3 la (.lst ((K1.eraseIdx j).map itR))) x := (C5.i1 x (List.mem_of_getElem? hx)).ts (ts_lst C5.ha)
        have C7 := C6.setF S hx3
        refine ⟨fc, _, _, rfl, rfl, C6.hf, (by rw [List.length_map, hal]; exact len_lt (Nat.le_trans (Nat.le_of_lt hi) (Nat.le_trans hN2 (by decide)))), ?_⟩
        have C8 := C7.setC S ((c1 : Int) - 1) c2
        rw [ec] at C8
        refine ⟨_, rfl, _, rfl, lc, _, _, _, rfl, rfl, SqL.of C7.hc, (atI0 : atI ([.int (c1 : Int), .int (c2 : Int)] : List V) ((0 : Nat) : Int) = some (.int (c1 : Int))), _, _, rfl, rfl, lc, _, _, 0, rfl, rfl, C7.hc, (show ixN 2 (0 : Int) = some 0 from by decide +kernel), ?_⟩
        first | rw [ec] | (dsimp only; rw [ec])
        exact ⟨_, _, _, K1.eraseIdx j, K2, acc ++ [x], c1 - 1, c2, e3, rfl, C8, hi, by rw [List.length_append, hal]; rfl, ut, u2.down, (Nat.le_trans (Nat.add_le_add_right (Nat.sub_le _ _) _) hc4), hF5, by rw [hr4, List.append_assoc]; rfl⟩
      · subst hn
        obtain ⟨hW2, hz2, hpl2, hv2, hF3⟩ := hF2
        have hpp := wAt_rep (pk_pos hW2 hv2)
        have hr3 : run (mU N A.length B.length sk tk) e = (acc ++ (run (match K2[pkN (List.replicate K2.length 1) e2]? with
            | none => .ret []
            | some x => (mU m c1 ((c2 : Int) - 1) K1 (K2.eraseIdx (pkN (List.replicate K2.length 1) e2)) ).bind fun o => .ret (x :: o)) (pkE (List.replicate K2.length 1) e2)).1, (run (match K2[pkN (List.replicate K2.length 1) e2]? with
            | none => .ret []
            | some x => (mU m c1 ((c2 : Int) - 1) K1 (K2.eraseIdx (pkN (List.replicate K2.length 1) e2)) ).bind fun o => .ret (x :: o)) (pkE (List.replicate K2.length 1) e2)).2) := hr2
        clear hr2
        -- place = dice.pick([1] * len(lists[side]))
        obtain ⟨dxE, chE, psE, rsE, XC⟩ := C2.ex
        refine ⟨_, rfl, d.p, dxE, _, rfl, XC.ins, ex_no _ _ _ _ _ _ _ _ (by decide +kernel), (by show 1 ≤ sizeLine; decide), fun l1 hl1 => ?_⟩
        have C3 := C2.same S (same_new (o := .lst [.int 1]) hl1)
        refine ⟨_, rfl, _, rfl, lo, _, _, _, rfl, rfl, SqL.of C3.ho, (atI1 : atI ([.ref la, .ref lb] : List V) ((1 : Nat) : Int) = some (.ref lb)), lb, _, rfl, .inl (SqL.of C3.hb), ?_⟩
        have hk3 : K2.length ≤ 4 := Nat.le_trans u2.le (Nat.le_trans (Nat.le_add_left _ _) hc4)
        refine ⟨l1, _, _, rfl, rfl, upd_same, (by rw [List.length_map]; exact (len_b hk3).1), (by rw [List.length_map]; exact (len_b hk3).2.1), (by rw [List.length_map]; exact (len_b hk3).2.2), fun p hp1 => ?_⟩
        rw [List.length_map, Int.toNat_natCast, rep_flat]
        have C4 := C3.same S (same_new (o := .lst ((List.replicate K2.length (1 : Int)).map V.int)) hp1)
        refine ⟨d, _, p, List.replicate K2.length 1, e2, rows, rfl, C4.ex, SqL.of upd_same, C3.ex.newX hp1, hW2, hz2, hpl2, hv2, fun H3 k3 X3 => ?_⟩
        have C5 := C4.pick S k3 X3
        clear C3 C4 C2
        generalize pkE (List.replicate K2.length 1) e2 = e3 at hF3 hr3 C5 X3
        generalize pkN (List.replicate K2.length 1) e2 = j at hF3 hr3 hpp ⊢
        have hx : K2[j]? = some K2[j] := List.getElem?_eq_getElem hpp
        generalize K2[j] = x at hx
        have ec : (c2 : Int) - 1 = ((c2 - 1 : Nat) : Int) := (Int.natCast_sub (u2.take hpp).1).symm
        rw [hx] at hr3
        have hF4 : Fit ((mU m c1 ((c2 : Int) - 1) K1 (K2.eraseIdx j) ).bind fun o => .ret (x :: o)) e3 := by
          have z : Fit (match K2[j]? with | none => .ret [] | some x => (mU m c1 ((c2 : Int) - 1) K1 (K2.eraseIdx j) ).bind fun o => .ret (x :: o)) e3 := hF3
          rw [hx] at z
          exact z
        have hr4 : run (mU N A.length B.length sk tk) e = (acc ++ x :: (run (mU m c1 ((c2 : Int) - 1) K1 (K2.eraseIdx j) ) e3).1, (run (mU m c1 ((c2 : Int) - 1) K1 (K2.eraseIdx j) ) e3).2) := by
          rw [hr3]
          show (acc ++ (run ((mU m c1 ((c2 : Int) - 1) K1 (K2.eraseIdx j) ).bind fun o => .ret (x :: o)) e3).1, (run ((mU m c1 ((c2 : Int) - 1) K1 (K2.eraseIdx j) ).bind fun o => .ret (x :: o)) e3).2) = _
          rw [run_bind]
          rfl
        have hF5 := ((fit_bind _ _ _).mp hF4).1
        rw [ec] at hF5 hr4
        obtain ⟨hc1, ut⟩ := u2.take hpp
        -- found.append(lists[side].pop(place))
        refine ⟨_, rfl, .inl ⟨rfl, _, SqL.of C5.hf⟩, _, rfl, _, rfl, lo, _, _, _, rfl, rfl, SqL.of C5.ho, (atI1 : atI ([.ref la, .ref lb] : List V) ((1 : Nat) : Int) = some (.ref lb)), .inl ⟨rfl, _, SqL.of C5.hb⟩, _, rfl, lb, _, (j : Int), j, itR x, rfl, rfl, C5.hb, (len_b2 hpp hk3).1, (len_b2 hpp hk3).2.1, (by rw [List.length_map]; exact (len_b2 hpp hk3).2.2), (by rw [List.getElem?_map, hx]; rfl), ?_⟩
        rw [erase_map]
        have C6 := C5.setB S (K' := K2.eraseIdx j) fun y hy => mem_erase _ _ _ hy
        have hx3 : ItAt K (upd H3 lb (.lst ((K2.eraseIdx j).map itR))) x := (C5.i2 x (List.mem_of_getElem? hx)).ts (ts_lst C5.hb)
        have C7 := C6.setF S hx3
        refine ⟨fc, _, _, rfl, rfl, C6.hf, (by rw [List.length_map, hal]; exact len_lt (Nat.le_trans (Nat.le_of_lt hi) (Nat.le_trans hN2 (by decide)))), ?_⟩
        have C8 := C7.setC S c1 ((c2 : Int) - 1)
        rw [ec] at C8
        refine ⟨_, rfl, _, rfl, lc, _, _, _, rfl, rfl, SqL.of C7.hc, (atI1 : atI ([.int (c1 : Int), .int (c2 : Int)] : List V) ((1 : Nat) : Int) = some (.int (c2 : Int))), _, _, rfl, rfl, lc, _, _, 1, rfl, rfl, C7.hc, (show ixN 2 (1 : Int) = some 1 from by decide +kernel), ?_⟩
        first | rw [ec] | (dsimp only; rw [ec])
        exact ⟨_, _, _, K1, K2.eraseIdx j, acc ++ [x], c1, c2 - 1, e3, rfl, C8, hi, by rw [List.length_append, hal]; rfl, u1.down, ut, (Nat.le_trans (Nat.add_le_add_left (Nat.sub_le _ _) _) hc4), hF5, by rw [hr4, List.append_assoc]; rfl⟩
    · rintro σ H' ⟨o6, o7, o8, K1, K2, acc, c1, c2, e1, rfl, C, _, hal, u1, u2, hc4, hF1, hr1⟩
      have he : run (mU (N - N) c1 c2 K1 K2) e1 = ([], e1) := by rw [Nat.sub_self]; rfl
      rw [he, List.append_nil] at hr1
      rw [hr1] at q gr
      have hnd : (acc.map (·.key)).Nodup := gr.1.keys hk0
      have hsH := hs.kp C.kp nx1.1 nx1.2
      have htH := ht.kp C.kp nx2.1 nx2.2
      refine ⟨_, rfl, a, _, dx, _, _, rfl, hsH.ins, cl, T.n_Uniform_size, sm_size _ _ _ _, _, rfl, a, _, dx, _, _, rfl, hsH.ins, cl, T.n_Uniform_seen, sm_seen _ _ _, _, rfl, b, _, dx', _, _, rfl, htH.ins, cl, T.n_Uniform_seen, sm_seen _ _ _, (A.length : Int), (B.length : Int), rfl, rfl, ?_⟩
      refine ⟨_, rfl, fc, Itm, acc, itR, itD, rfl, SqL.of C.hf, fun x hx => (C.i3 x hx).dp, itD_alike acc, itD_sortable acc, fun x _ => itD_depth x, fun g hg => ?_⟩
      rw [sort_items hnd]
      have sg := same_new (o := .lst ((srtI acc).map itR)) hg
      refine fun p dp hp hdp hne => ?_
      have sm := sg.trans (made_same (C := smC K true) hp hdp hne)
      have ngp : g ≠ p := ne_of_none upd_same hp
      have hp0 := sg.free hp
      refine ⟨p, dp, g, ss, (A.length : Int) + B.length, srtI acc, rfl, upd_same, SqL.of (made_same hp hdp hne g _ upd_same), fun x hx => (C.i3 x ((srtI_ok.perm acc).mem_iff.mp hx)).ts (.of_same sm), ngp, fun z H'' hz oo sA => ?_⟩
      have s6 : Same H' H'' := fun g o eg => oo g o (sm g o eg) (ne_of_none eg hp0)
      have hxn := C.ex.newX (a := p) hp0
      have hzn : H' z = none := sm.free hz
      exact ⟨rfl, q p z dp H'' (C.kp.free hp0 hxn) (C.kp.free hzn (C.ex.newX hzn)) (C.kp.trans (.of_same s6)) sA ((C.ex.same s6).less (fun g hg => .inl hg) X.xy)⟩
end
end Sam

set_option maxHeartbeats 4000000
namespace Sam
open PySem PySem.Spec PyProof.Rows L2
/-! ### list(d.values()) -/
/-- at r: the values of the dict at a, as a view -/
def vwO (r a : Addr) : HO := .ext fun h => h.IsValuesView r a
section
variable {X : Cx} {o : Expr} {td : TE} {apos mpos : Pos}
def tDVw (td : TE) : TE := fun σ H Q => td σ H fun x H1 => ∃ a kvs, x = .ref a ∧ H1 a = some (.dK kvs) ∧ ∀ r, H1 r = none → Q (.ref r) (upd H1 r (vwO r a))
theorem pe_dvw (hd : PE X o td) (hbase : attributeBase o "values" X.env (eval o X.env) = eval o X.env := by rfl) (hline : (apos.endLine == mpos.line) = true := by rfl) : PE X (.Call (.Attribute o "values" apos) [] [] mpos) (tDVw td) := by
  refine ⟨fun pins s σ H Q I h => ?_⟩
  refine wpAny_Call_method (T := "dict") (id := "dict.values") hbase rfl hline F.plainAttrs_dict F.slot_dict_values F.type_dict_values (thn (hd.run pins s σ H _ I h) fun u s1 ⟨x, H1, I1, rx, a, kvs, ex, ha, q⟩ => ?_)
  subst ex
  obtain rfl : u = Value.ref a := rx
  obtain ⟨_, hs, vs, rel, dd⟩ := dk_of I1.hok ha
  refine ⟨dd.typeIs, dd.mapOf.noDict, ?_⟩
  show wpAny _ _ (callWith mpos (.builtin "dict.values") [.ref a] [] []) _ X.xe s1
  refine method_meetsIn F.slot_dict_values F.entry_dict_values rfl (PySem.evalArgs_none ⟨rfl, dd.typeIs, F.args_dict_values_1 _, _, meets_dict_values (mixKind X.prog X.w) a hs, ⟨vs, dd⟩, ?_⟩)
  have hv : (s1.heap.push { cls := .type "dict_values", data := .fields #[.ref a] }).IsValuesView s1.heap.objs.size a := ⟨_, Heap.get?_push_size _ rfl, rfl, rfl⟩
  refine ⟨.ref s1.heap.objs.size, upd H1 s1.heap.objs.size (vwO s1.heap.objs.size a), I1.laid (t' := s1.toks) (fun b ob e => Heap.get?_push_of_some _ e) (Nat.le_refl _) ?_, rfl, q _ (I1.hok.fresh (Nat.le_refl _))⟩
  exact ⟨hv, ⟨_, Heap.get?_push_size _ rfl⟩, fun h1 h2 x st => let ⟨o, e, r⟩ := x; ⟨o, st o e, r⟩⟩
def rListV : List V → Hp → VK → Prop := fun xs H Q => ∃ r a kvs, xs = [.ref r] ∧ H r = some (vwO r a) ∧ H a = some (.dK kvs) ∧ ∀ p, H p = none → Q (.ref p) (upd H p (.lst (kvs.map Prod.snd)))
theorem kv_at {κ : Type} {kvs : List (κ × V)} {vs : List (κ × Value)} (r : KV kvs vs) : ∀ {us : List Value}, us.length = vs.length → (∀ (j : Nat) (v : Value), us[j]? = some v → ∃ k, vs[j]? = some (k, v)) → Vals (kvs.map Prod.snd) us := by
  unfold KV at r
  induction r with
  | nil =>
    intro us hl _
    have e : us = [] := List.eq_nil_of_length_eq_zero hl
    rw [e]
    exact .nil
  | @cons p q ps qs h t ih =>
    intro us hl hj
    cases us with
    | nil => simp at hl
    | cons u us =>
      obtain ⟨k, e⟩ := hj 0 u rfl
      have e : q = (k, u) := Option.some.inj e
      subst e
      exact .cons h.2 (ih (by simpa using hl) fun j v e => by simpa using hj (j + 1) v (by simpa using e))
theorem call_listV (hc : X.calm = true) : CallR X (.type "list") rListV := by
  intro pins s σ H xs us Q I r q
  obtain ⟨d, a, kvs, ex, hr, ha, q⟩ := q
  subst ex
  obtain ⟨u, eu, rx⟩ := vals1 r
  subst eu
  cases rx
  obtain ⟨z, hs, vs, rel, dd⟩ := dk_of I.hok ha
  obtain ⟨ep, hat⟩ := dd.dictAt
  have hv : s.heap.IsValuesView d a := (show ObjOk X.prog X.w H s.heap d (vwO d a) from I.hok d _ hr).1
  refine PySem.W.kdl_call (PySem.W.kdl_values (knd := mixKind X.prog X.w) (kvs := vs) (ep := ep)) (I.ok.hd hc) ⟨hv, hat⟩ (by rw [← rel.length]; exact z) fun h' tk acc c' hk hD hacc => ?_
  have hvs : Vals (kvs.map Prod.snd) acc.toList := kv_at rel (by rw [Array.length_toList]; exact hacc.1) fun j v e => hacc.2 j v (by rw [← Array.getElem?_toList]; exact e)
  refine ⟨.ref s.heap.objs.size, upd H s.heap.objs.size (.lst (kvs.map Prod.snd)), I.laid (t' := tk) hk (Nat.le_refl _)
    (show ObjOk X.prog X.w _ _ _ (.lst (kvs.map Prod.snd)) from ⟨by rw [List.length_map]; exact z, acc.toList, c', hvs, by rw [Array.toArray_toList]; exact hD⟩), rfl, q _ (I.hok.fresh (Nat.le_refl _))⟩
end
/-- what was locked stands again -/
theorem unlock_same {H H' : Hp} {d : Addr} {u f : HO} (h : H d = some u) (s : Same (upd H d f) H') : Same H (upd H' d u) := fun b o e => by
  by_cases z : b = d
  · rw [z] at e ⊢
    rw [upd_same]
    rw [h] at e
    exact e
  · rw [upd_ne z]
    exact s b o (by rw [upd_ne z]; exact e)
end Sam

set_option maxHeartbeats 4000000
set_option pp.maxSteps 600
namespace Sam
open PySem PySem.Spec PyProof.Rows L2
/-! ### plans -/
def knd (un : Bool) : Str := bif un then "uniform" else "weighted"
/-- v is the rule r -/
def RuleV (K : PySem.W.Frag) (H : Hp) (v : V) (r : Rule) : Prop := ∃ t, v = .ref t ∧ SqT K H t [.str (knd r.1), .int r.2]
theorem RuleV.ts {K : PySem.W.Frag} {H H' : Hp} {v : V} {r : Rule} (h : RuleV K H v r) (e : Ts H H') : RuleV K H' v r := let ⟨t, a, b⟩ := h; ⟨t, a, e.seqT b⟩
/-- the groups as they were put, as they are sorted -/
abbrev sR : Str := "red"
abbrev sB : Str := "blue"
def GsOk (ks gs : List Str) : Prop := (ks = [] ∧ gs = []) ∨ (ks = [sR] ∧ gs = [sR]) ∨ (ks = [sB] ∧ gs = [sB]) ∨ (ks = [sR, sB] ∧ gs = [sB, sR])
structure RuA (K : PySem.W.Frag) (H : Hp) (D : Addr) (o : V) (ks gs : List Str) (rs : List Rule) (kvs : List (Key × V)) : Prop where
  dict : H D = some (.dK kvs)
  keys : kvs.map (·.1) = ks.map Sum.inr
  ok : GsOk ks gs
  rok : RsOk gs rs
  val : ∀ g ∈ ks, ∃ v, valV kvs (.inr g) = some v ∧ RuleV K H v (ruleAt rs (pix gs g))
  oth : RuleV K H o (ruleAt rs gs.length)
  all : ∀ p ∈ kvs, ∃ r : Rule, RuleV K H p.2 r ∧ 1 ≤ r.2 ∧ r.2 ≤ 2
section
variable {K : PySem.W.Frag} {H H' : Hp} {D : Addr} {o : V} {ks gs : List Str} {rs : List Rule} {kvs : List (Key × V)}
theorem RuA.at (h : RuA K H D o ks gs rs kvs) (t : Ts H H') {D' : Addr} (e : H' D' = some (.dK kvs)) : RuA K H' D' o ks gs rs kvs :=
  ⟨e, h.keys, h.ok, h.rok, fun g hg => let ⟨v, a, b⟩ := h.val g hg; ⟨v, a, b.ts t⟩, h.oth.ts t, fun p hp => let ⟨r, a, b⟩ := h.all p hp; ⟨r, a.ts t, b⟩⟩
theorem RuA.same (h : RuA K H D o ks gs rs kvs) (s : Same H H') : RuA K H' D o ks gs rs kvs := h.at (.of_same s) (s _ _ h.dict)
theorem GsOk.len (h : GsOk ks gs) : ks.length = gs.length ∧ ks.length ≤ 2 ∧ ∀ g ∈ ks, g = sR ∨ g = sB := by
  rcases h with ⟨rfl, rfl⟩ | ⟨rfl, rfl⟩ | ⟨rfl, rfl⟩ | ⟨rfl, rfl⟩
  · exact ⟨rfl, by decide, fun g hg => nomatch hg⟩
  · exact ⟨rfl, by decide, fun g hg => .inl (List.mem_singleton.mp hg)⟩
  · exact ⟨rfl, by decide, fun g hg => .inr (List.mem_singleton.mp hg)⟩
  · refine ⟨rfl, by decide, fun g hg => ?_⟩
    rcases List.mem_cons.mp hg with e | e
    · exact .inl e
    · exact .inr (List.mem_singleton.mp e)
theorem RuA.klen (h : RuA K H D o ks gs rs kvs) : kvs.length = ks.length := by
  have e := congrArg List.length h.keys
  rw [List.length_map, List.length_map] at e
  exact e
end
def spName : Sp := fun vs H Q _ => ∃ x : Str, vs = [.str x] ∧ (x = sR ∨ x = sB) ∧ ∀ H', Same H H' → Q (.bl true) H'
def spCheckPlan (K : PySem.W.Frag) : Sp := fun vs H Q _ => ∃ (D : Addr) (o : V) (ks gs : List Str) (rs : List Rule) (kvs : List (Key × V)), vs = [.ref D, o] ∧ RuA K H D o ks gs rs kvs ∧ ∀ H', Same H H' → Q .non H'
theorem all_tt (n : Nat) : (List.replicate n true).all id = true := by
  induction n with
  | zero => rfl
  | succ n ih => rw [List.replicate_succ, List.all_cons, ih]; rfl
theorem rep_snoc (n : Nat) : (List.replicate n true).map V.bl ++ [V.bl true] = (List.replicate (n + 1) true).map V.bl := by
  rw [List.replicate_succ', List.map_append]
  rfl
section
variable {P : Program} {w : World} {K : PySem.W.Frag} {mg : Str → Option Value} {base : Heap}
theorem ok_is_name (T : Tx K mg) : Cal P w K mg base 1 "is_name" ["text"] spName := by
  obtain ⟨fd, F⟩ := T.d_is_name
  refine ⟨_, fd, T.g_is_name, F.kp, F.binds (ps := ["text"]) fun _ _ _ _ _ _ us hl => match us, hl with | [_], _ => rfl, F.ok sc_is_name (fun vs H Q E h => ?_) (fun cdv A outer s H vs Q E hr h => ?_)⟩
  · obtain ⟨x, rfl, _⟩ := h
    rfl
  · obtain ⟨x, rfl, hx, k⟩ := h
    have nd := sc_is_name.nd
    obtain ⟨tk, gN⟩ := T.s_NAME_SIGNS
    refine ⟨_, pss_one (ps_ret (pe_and (pe_chain op_le op_le pe_int (pe_callB call_len (by rfl) T.f_len PySem.boot_len (pa_cons (pv 0) pa_nil)) pe_int)
      (pe_one (pe_callB (cr_all rfl) (by rfl) T.f_all (by decide +kernel) (pa_cons
        (pe_lc (own := [("sign", 1)]) (g := gName 1) (tt := tYes) rfl nd (pi_str (pv 0)) (blkOk_by (N := ["text", "sign"]) (sc := defScope s_is_name) (by decide +kernel))
          (fun _ _ _ _ _ => pg_name (i := 1) nd rfl (Or.inl rfl)) (fun _ _ _ _ _ => pts_nil)
          (fun _ _ _ _ _ => pe_cmpR op_in_sign (pv 1) (pe_glob rfl gN (v := .str "abcdefghijklmnopqrstuvwxyz0123456789") ⟨_, rfl⟩) (by with_unfolding_all rfl))) pa_nil))))), ?_⟩
    have hl : 1 ≤ x.length ∧ x.length ≤ 12 ∧ x.length = x.cps.size ∧ ∀ c ∈ x.cps.toList, c ∈ (Str.ofString "abcdefghijklmnopqrstuvwxyz0123456789").cps.toList := by
      rcases hx with rfl | rfl
      · decide +kernel
      · decide +kernel
    obtain ⟨h1, h2, h3, h4⟩ := hl
    refine ⟨_, rfl, .str x, x.length, rfl, ⟨by rw [sizeLine_eq]; omega, rfl⟩, _, _, rfl, rfl, true, ?_, ?_⟩
    · show V.bl (decide ((1 : Int) ≤ (x.length : Int))) = _
      rw [decide_eq_true (by omega)]
    rw [if_pos rfl]
    refine ⟨_, _, rfl, rfl, true, ?_, ?_⟩
    · show V.bl (decide ((x.length : Int) ≤ 12)) = _
      rw [decide_eq_true (by omega)]
    refine iteT ?_
    refine ⟨_, rfl, x, rfl, fun D hD => lc_it walk_str (fun i H' => Same H H' ∧ H' D = some (.lst ((List.replicate i true).map V.bl))) ⟨same_new hD, upd_same⟩ (fun i H' _ _ => trivial) ?_ ?_⟩
    · rintro i v H1 H' hi ⟨s1, hDl⟩ ⟨rfl, c, hc, rfl⟩
      refine ⟨rfl, ⟨_, rfl, c, _, rfl, rfl, ?_⟩⟩
      have hm : c ∈ x.cps.toList := by
        rw [← Array.getElem?_toList] at hc
        exact List.mem_of_getElem? hc
      rw [decide_eq_true (h4 c hm)]
      refine ⟨_, hDl, by rw [List.length_map, List.length_replicate, sizeLine_eq]; omega, fun b o eb => ?_, ?_⟩
      · rw [upd_ne (ne_of_none eb hD)]
        exact s1 b o eb
      · rw [upd_same, rep_snoc]
    · rintro H1 ⟨s1, hDl⟩
      refine ⟨D, _, rfl, SqL.of hDl, ?_⟩
      rw [all_tt]
      exact k H1 s1
end
end Sam

set_option maxHeartbeats 4000000
set_option pp.maxSteps 600
namespace Sam
open PySem PySem.Spec PyProof.Rows L2
theorem ruleAt_mem {rs : List Rule} {i : Nat} (h : i < rs.length) : ruleAt rs i ∈ rs := by
  unfold ruleAt
  rw [List.getD_eq_getElem?_getD, List.getElem?_eq_getElem h]
  exact List.getElem_mem h
section
variable {K : PySem.W.Frag} {H H' : Hp} {D : Addr} {o : V} {ks gs : List Str} {rs : List Rule} {kvs : List (Key × V)}
theorem RuA.every (h : RuA K H D o ks gs rs kvs) : ∀ v ∈ kvs.map Prod.snd ++ [o], ∃ r : Rule, RuleV K H v r ∧ 1 ≤ r.2 ∧ r.2 ≤ 2 := fun v hv => by
  rcases List.mem_append.mp hv with hv | hv
  · obtain ⟨p, hp, rfl⟩ := List.mem_map.mp hv
    exact h.all p hp
  · rw [List.mem_singleton.mp hv]
    have m := ruleAt_mem (rs := rs) (i := gs.length) (by rw [h.rok.len]; omega)
    exact ⟨_, h.oth, h.rok.lo _ m, h.rok.hi _ m⟩
end
theorem op_inK {X : Cx} (K : PySem.W.Frag) (h : X.K = K) : OpR X (compareOp .In) (rIn K false) := by
  subst h
  exact op_in_seq
theorem knd_in (un : Bool) : inV (.str (knd un)) [V.str "uniform", V.str "weighted", V.str "optimal"] = true := by cases un <;> decide +kernel
section
variable {P : Program} {w : World} {K : PySem.W.Frag} {mg : Str → Option Value} {base : Heap}
theorem ok_check_plan (T : Tx K mg) : Cal P w K mg base 2 "check_plan" ["rules", "others"] (spCheckPlan K) := by
  obtain ⟨fd, F⟩ := T.d_check_plan
  refine ⟨_, fd, T.g_check_plan, F.kp, F.binds (ps := ["rules", "others"]) fun _ _ _ _ _ _ us hl => match us, hl with | [_, _], _ => rfl, F.ok sc_check_plan (fun vs H Q E h => ?_) (fun cdv A outer s H vs Q E hr h => ?_)⟩
  · obtain ⟨D, o, ks, gs, rs, kvs, rfl, _⟩ := h
    rfl
  · obtain ⟨D, o, ks, gs, rs, kvs, rfl, R, k⟩ := h
    have nd := sc_check_plan.nd
    obtain ⟨tk, gM⟩ := T.i_MOST_GROUPS
    obtain ⟨tk2, gS⟩ := T.i_MOST_SIZE_store
    obtain ⟨hk1, hk2, hk3⟩ := R.ok.len
    have hkl := R.klen
    refine ⟨_, pss_cons (ps_if (pt_cmpR op_gt (pe_callB call_lenD (by rfl) T.f_len PySem.boot_len (pa_cons (pv 0) pa_nil)) (pe_glob rfl gM (v := .int 20) ⟨_, rfl⟩) (nomark _)) pss_never pss_nil)
      (pss_cons (ps_if (pt_not (pt_val (pe_callB (cr_all rfl) (by rfl) T.f_all (by decide +kernel) (pa_cons (pe_lock
          (pe_lc (own := [("group", 3)]) (g := gName 3) (tt := tYes) rfl nd (pi_keys (pv 0)) (blkOk_by (N := ["rules", "others", "pairs", "group", "kind", "size"]) (sc := defScope s_check_plan) (by decide +kernel))
            (fun _ _ _ _ _ => pg_name (i := 3) nd rfl (Or.inl rfl)) (fun _ _ _ _ _ => pts_nil) (fun _ _ _ _ _ => pe_f (ok_is_name T) hr rfl (pa_cons (pv 3) pa_nil)))) pa_nil)))) pss_never pss_nil)
      (pss_cons (ps_set (i := 2) nd rfl (.inl rfl) (pe_op op_cat (pe_callTy (call_listV rfl) (by rfl) T.f_list (by decide +kernel) (pa_cons (pe_dvw (pv 0)) pa_nil)) (pe_lst (pa_cons (pv 1) pa_nil))))
      (pss_cons (ps_if (pt_not (pt_val (pe_callB (cr_all rfl) (by rfl) T.f_all (by decide +kernel) (pa_cons
          (pe_lc (own := [("kind", 4), ("size", 5)]) (g := gTup K 2 (gCons (gName 4) (gCons (gName 5) gNil))) (tt := tYes) rfl nd (pi_list (pv 2)) (blkOk_by (N := ["rules", "others", "pairs", "group", "kind", "size"]) (sc := defScope s_check_plan) (by decide +kernel))
            (fun _ _ _ _ _ => pg_tup rfl (pgs_cons (pg_name (i := 4) nd rfl (Or.inl rfl)) (pgs_cons (pg_name (i := 5) nd rfl (Or.inl rfl)) pgs_nil))) (fun _ _ _ _ _ => pts_nil)
            (fun _ _ _ _ _ => pe_cmpR (op_inK K rfl) (pv 4) (pe_glob rfl T.g_KINDS (v := .ref _) rfl) (by with_unfolding_all rfl))) pa_nil)))) pss_never pss_nil)
      (pss_cons (ps_if (pt_not (pt_val (pe_callB (cr_all rfl) (by rfl) T.f_all (by decide +kernel) (pa_cons
          (pe_lc (own := [("kind", 4), ("size", 5)]) (g := gTup K 2 (gCons (gName 4) (gCons (gName 5) gNil))) (tt := tYes) rfl nd (pi_list (pv 2)) (blkOk_by (N := ["rules", "others", "pairs", "group", "kind", "size"]) (sc := defScope s_check_plan) (by decide +kernel))
            (fun _ _ _ _ _ => pg_tup rfl (pgs_cons (pg_name (i := 4) nd rfl (Or.inl rfl)) (pgs_cons (pg_name (i := 5) nd rfl (Or.inl rfl)) pgs_nil))) (fun _ _ _ _ _ => pts_nil)
            (fun _ _ _ _ _ => pe_chain op_le op_le pe_int (pv 5) (pe_glob rfl gS (v := .int 20) ⟨_, rfl⟩))) pa_nil)))) pss_never pss_nil)
      (pss_one (ps_ret pe_non)))))), ?_⟩
    -- len(rules) > MOST_GROUPS
    refine ⟨_, rfl, D, kvs, rfl, R.dict, _, _, rfl, rfl, _, rfl, ?_⟩
    refine ite2 (fun e => ?_) (fun _ => ?_)
    · have e := of_decide_eq_true e
      omega
    -- the names
    refine ⟨D, _, R.dict, trivial, fun od => ?_⟩
    refine ⟨_, rfl, D, od, rfl, .inl ⟨kvs, upd_same, fun C hC => lc_it walk_keys (fun i H' => Same (upd H D (.frz od (.dK kvs))) H' ∧ H' C = some (.lst ((List.replicate i true).map V.bl))) ⟨same_new hC, upd_same⟩ (fun i H' _ h' => h'.1 _ _ upd_same) ?_ ?_⟩⟩
    · rintro i v H1 H' hi ⟨s1, hCl⟩ ⟨rfl, kk, v0, hkv, rfl⟩
      have hm : kk ∈ kvs.map (·.1) := List.mem_map.mpr ⟨_, List.mem_of_getElem? hkv, rfl⟩
      rw [R.keys] at hm
      obtain ⟨g, hg, rfl⟩ := List.mem_map.mp hm
      refine ⟨rfl, _, rfl, g, rfl, hk3 g hg, fun H2 s2 => ?_⟩
      refine ⟨_, s2 _ _ hCl, by rw [List.length_map, List.length_replicate, sizeLine_eq]; omega, fun b ob eb => ?_, ?_⟩
      · rw [upd_ne (ne_of_none eb hC)]
        exact s2 _ _ (s1 b ob eb)
      · rw [upd_same, rep_snoc]
    · rintro H1 ⟨s1, hCl⟩
      refine ⟨s1 _ _ upd_same, C, _, rfl, SqL.of (a := C) (xs := (List.replicate kvs.length true).map V.bl) ?_, ?_⟩
      · rw [upd_ne (fun z => by rw [z, upd_same] at hC; cases hC)]
        exact hCl
      rw [all_tt]
      have s2 := unlock_same R.dict s1
      generalize upd H1 D (.dK kvs) = H2 at s2
      clear s1 hCl H1
      refine ⟨true, rfl, ?_⟩
      refine iteF ?_
      -- pairs
      have R2 := R.same s2
      refine ⟨_, rfl, D, kvs, rfl, R2.dict, fun r hr1 => ?_⟩
      have s3 := same_new (o := vwO r D) hr1
      refine ⟨r, D, kvs, rfl, upd_same, s3 _ _ R2.dict, fun p hp => ?_⟩
      have s4 := same_new (o := .lst (kvs.map Prod.snd)) hp
      refine ⟨_, rfl, Nat.succ_le_of_lt (by rw [sizeLine_eq]; decide), fun q hq => ?_⟩
      have s5 := same_new (o := .lst [o]) hq
      refine ⟨p, q, _, _, rfl, rfl, s5 _ _ upd_same, upd_same, (by rw [List.length_map, sizeLine_eq]; show _ + 1 ≤ _; omega), fun L hL => ?_⟩
      have s6 := same_new (o := .lst (kvs.map Prod.snd ++ [o])) hL
      have s7 := (((s2.trans s3).trans s4).trans s5).trans s6
      have hLl : upd (upd (upd (upd H2 r (vwO r D)) p (.lst (kvs.map Prod.snd))) q (.lst [o])) L (.lst (kvs.map Prod.snd ++ [o])) L = some (.lst (kvs.map Prod.snd ++ [o])) := upd_same
      generalize upd (upd (upd (upd H2 r _) p _) q _) L _ = H3 at s7 hLl
      have hl5 : (kvs.map Prod.snd ++ [o]).length ≤ 100 := by rw [List.length_append, List.length_map]; show _ + 1 ≤ _; omega
      -- the kinds
      refine ⟨_, rfl, L, rfl, ⟨_, SqL.of hLl⟩, fun C hC => lc_it walk_list (fun i H' => Same H3 H' ∧ H' C = some (.lst ((List.replicate i true).map V.bl))) ⟨same_new hC, upd_same⟩ (fun i H' _ h' => h'.1.seq (SqL.of hLl)) ?_ ?_⟩
      · rintro i v H4 H' hi ⟨s8, hCl⟩ ⟨rfl, hv⟩
        obtain ⟨rr, ⟨t, rfl, ht⟩, hr1, hr2⟩ := R.every v (List.mem_of_getElem? hv)
        have ht' := Same.seqT (s7.trans s8) ht
        refine ⟨t, _, rfl, ht', rfl, _, _, rfl, _, _, rfl, rfl, rfl, ⟨_, rfl, _, _, rfl, .inr (T.t_KINDS _), rfl, rfl, ?_⟩⟩
        show ∃ acc, _
        rw [if_neg (by decide), knd_in]
        refine ⟨_, hCl, by rw [List.length_map, List.length_replicate, sizeLine_eq]; omega, fun b ob eb => ?_, ?_⟩
        · rw [upd_ne (ne_of_none eb hC)]
          exact s8 b ob eb
        · rw [upd_same, rep_snoc]
      · rintro H4 ⟨s8, hCl⟩
        refine ⟨C, _, rfl, SqL.of hCl, ?_⟩
        rw [all_tt]
        refine ⟨true, rfl, ?_⟩
        refine iteF ?_
        have s9 := s7.trans s8
        have hLl4 := s8 _ _ hLl
        -- the sizes
        refine ⟨_, rfl, L, rfl, ⟨_, SqL.of hLl4⟩, fun C2 hC2 => lc_it walk_list (fun i H' => Same H4 H' ∧ H' C2 = some (.lst ((List.replicate i true).map V.bl))) ⟨same_new hC2, upd_same⟩ (fun i H' _ h' => h'.1.seq (SqL.of hLl4)) ?_ ?_⟩
        · rintro i v H5 H' hi ⟨s10, hC2l⟩ ⟨rfl, hv⟩
          obtain ⟨rr, ⟨t, rfl, ht⟩, hr1, hr2⟩ := R.every v (List.mem_of_getElem? hv)
          have ht' := Same.seqT (s9.trans s10) ht
          refine ⟨t, _, rfl, ht', rfl, _, _, rfl, _, _, rfl, rfl, rfl, ⟨_, rfl, _, _, rfl, rfl, true, ?_, ?_⟩⟩
          · show V.bl (decide ((1 : Int) ≤ (rr.2 : Int))) = _
            rw [decide_eq_true (by omega)]
          rw [if_pos rfl]
          refine ⟨_, _, rfl, rfl, ?_⟩
          dsimp only
          rw [show decide ((rr.2 : Int) ≤ 20) = true from decide_eq_true (by omega)]
          refine ⟨_, hC2l, by rw [List.length_map, List.length_replicate, sizeLine_eq]; omega, fun b ob eb => ?_, ?_⟩
          · rw [upd_ne (ne_of_none eb hC2)]
            exact s10 b ob eb
          · rw [upd_same, rep_snoc]
        · rintro H5 ⟨s10, hC2l⟩
          refine ⟨C2, _, rfl, SqL.of hC2l, ?_⟩
          rw [all_tt]
          refine ⟨true, rfl, ?_⟩
          refine iteF ?_
          exact k _ (s9.trans s10)
end
end Sam

set_option maxHeartbeats 4000000
set_option pp.maxSteps 600
namespace Sam
open PySem PySem.Spec PyProof.Rows L2
abbrev CP (K : PySem.W.Frag) : Addr := He.ga K "Plan"
def plF (D : Addr) (o : V) : List (Str × V) := [("rules", .ref D), ("others", o)]
theorem pl_rules (D : Addr) (o : V) : (plF D o).lookup ("rules" : Str) = some (.ref D) := by kernel_rfl
theorem pl_others (D : Addr) (o : V) : (plF D o).lookup ("others" : Str) = some o := by kernel_rfl
theorem pl_no (D : Addr) (o : V) (m : Str) (h : (["rules", "others"] : List Str).contains m = false) : (plF D o).lookup m = none := by
  simp only [List.contains_eq_mem, decide_eq_false_iff_not, List.mem_cons, not_or] at h
  obtain ⟨h1, h2, _⟩ := h
  unfold plF
  simp only [List.lookup, beq_eq_false_iff_ne.mpr h1, beq_eq_false_iff_ne.mpr h2]
/-- at p: the plan; its rules at D -/
structure PlA (K : PySem.W.Frag) (H : Hp) (p dx D : Addr) (o : V) (ks gs : List Str) (rs : List Rule) (kvs : List (Key × V)) : Prop where
  ins : H p = some (.ins (CP K) dx (plF D o))
  ru : RuA K H D o ks gs rs kvs
theorem PlA.same {K : PySem.W.Frag} {H H' : Hp} {p dx D : Addr} {o : V} {ks gs : List Str} {rs : List Rule} {kvs : List (Key × V)} (h : PlA K H p dx D o ks gs rs kvs) (s : Same H H') : PlA K H' p dx D o ks gs rs kvs := ⟨s _ _ h.ins, h.ru.same s⟩
theorem PlA.kp {K : PySem.W.Frag} {H H' : Hp} {d : Dc} {p dx D : Addr} {o : V} {ks gs : List Str} {rs : List Rule} {kvs : List (Key × V)} (h : PlA K H p dx D o ks gs rs kvs) (k : Kp d H H') (h1 : ¬ d.X p) (h2 : ¬ d.X D) : PlA K H' p dx D o ks gs rs kvs := ⟨k.keep _ _ h.ins h1, h.ru.at k.ts (k.keep _ _ h.ru.dict h2)⟩
/-- the place of the number i -/
def pk (gs : List Str) (i : Nat) : Option Key := (gs[i]?).map Sum.inr
theorem pix_le (gs : List Str) (g : Str) : pix gs g ≤ gs.length := List.idxOf_le_length
theorem pk_pix (gs : List Str) (g : Str) : pk gs (pix gs g) = if g ∈ gs then some (.inr g) else none := by
  unfold pk pix
  by_cases h : g ∈ gs
  · have hl : List.idxOf g gs < gs.length := List.idxOf_lt_length_iff.mpr h
    rw [if_pos h, List.getElem?_eq_getElem hl, List.getElem_idxOf]
    rfl
  · rw [if_neg h, List.idxOf_eq_length h, List.getElem?_eq_none (Nat.le_refl _)]
    rfl
theorem GsOk.mem {ks gs : List Str} (h : GsOk ks gs) (g : Str) : g ∈ ks ↔ g ∈ gs := by
  rcases h with ⟨rfl, rfl⟩ | ⟨rfl, rfl⟩ | ⟨rfl, rfl⟩ | ⟨rfl, rfl⟩
  · exact Iff.rfl
  · exact Iff.rfl
  · exact Iff.rfl
  · exact (List.Perm.swap sB sR []).mem_iff
theorem GsOk.nodup {ks gs : List Str} (h : GsOk ks gs) : gs.Nodup := by
  rcases h with ⟨rfl, rfl⟩ | ⟨rfl, rfl⟩ | ⟨rfl, rfl⟩ | ⟨rfl, rfl⟩ <;> decide +kernel
theorem perm2 {α : Type} {a b : α} {l : List α} (h : l.Perm [a, b]) : l = [a, b] ∨ l = [b, a] := by
  have hl := h.length_eq
  match l, hl with
  | [x, y], _ =>
    have hx := h.mem_iff.mp List.mem_cons_self
    rcases List.mem_cons.mp hx with e | e
    · subst e
      have e2 := (List.perm_cons x).mp h
      have e3 := e2.eq_singleton
      exact .inl (by rw [e3])
    · have e := List.mem_singleton.mp e
      subst e
      have e2 := (List.perm_cons x).mp (h.trans (List.Perm.swap x a []))
      exact .inr (by rw [e2.eq_singleton])
theorem GsOk.sorted {ks gs ys : List Str} (h : GsOk ks gs) (hp : ys.Perm ks) (hs : sortedS ys = true) : ys = gs := by
  rcases h with ⟨rfl, rfl⟩ | ⟨rfl, rfl⟩ | ⟨rfl, rfl⟩ | ⟨rfl, rfl⟩
  · exact hp.eq_nil
  · exact hp.eq_singleton
  · exact hp.eq_singleton
  · rcases perm2 hp with e | e
    · rw [e] at hs
      exact absurd hs (by decide +kernel)
    · exact e
section
variable {K : PySem.W.Frag} {H : Hp} {D : Addr} {o : V} {ks gs : List Str} {rs : List Rule} {kvs : List (Key × V)}
theorem valV_keys {kvs : List (Key × V)} {ks : List Str} (h : kvs.map (·.1) = ks.map Sum.inr) (g : Str) : (valV kvs (.inr g)).isSome = decide (g ∈ ks) := by
  rw [← valV_any]
  by_cases m : g ∈ ks
  · rw [decide_eq_true m, List.any_eq_true]
    have : (Sum.inr g : Key) ∈ kvs.map (·.1) := by rw [h]; exact List.mem_map.mpr ⟨g, m, rfl⟩
    obtain ⟨p, hp, e⟩ := List.mem_map.mp this
    exact ⟨p, hp, decide_eq_true e⟩
  · rw [decide_eq_false m, List.any_eq_false]
    intro p hp e
    have e := of_decide_eq_true e
    have : p.1 ∈ kvs.map (·.1) := List.mem_map.mpr ⟨p, hp, rfl⟩
    rw [h, e] at this
    obtain ⟨g', hg, e2⟩ := List.mem_map.mp this
    exact m (by rw [← Sum.inr.inj e2]; exact hg)
theorem RuA.pl (h : RuA K H D o ks gs rs kvs) {i : Nat} {g : Str} (hg : gs[i]? = some g) : ∃ v, valV kvs (.inr g) = some v ∧ RuleV K H v (ruleAt rs i) := by
  have hi := (List.getElem?_eq_some_iff.mp hg).1
  have e : pix gs g = i := by
    unfold pix
    rw [← (List.getElem?_eq_some_iff.mp hg).2]
    exact h.ok.nodup.idxOf_getElem i hi
  have z := h.val g ((h.ok.mem g).mpr (List.mem_of_getElem? hg))
  rw [e] at z
  exact z
end
def spPlanInit (K : PySem.W.Frag) : Sp := fun vs H Q _ => ∃ (p dx D : Addr) (o : V) (ks gs : List Str) (rs : List Rule) (kvs : List (Key × V)), vs = [.ref p, .ref D, o] ∧ H p = some (.ins (CP K) dx []) ∧ RuA K H D o ks gs rs kvs ∧
  ∀ (D' : Addr) (H' : Hp), H D' = none → (∀ b ob, H b = some ob → b ≠ p → H' b = some ob) → PlA K H' p dx D' o ks gs rs kvs → Q .non H'
def spPlaceOf (K : PySem.W.Frag) : Sp := fun vs H Q _ => ∃ (p dx D : Addr) (o : V) (ks gs : List Str) (rs : List Rule) (kvs : List (Key × V)) (g : Str), vs = [.ref p, .str g] ∧ PlA K H p dx D o ks gs rs kvs ∧ ∀ H', Same H H' → Q (kO (pk gs (pix gs g))) H'
def plcs (gs : List Str) : List V := (List.range (gs.length + 1)).map fun i => kO (pk gs i)
def spPlaces (K : PySem.W.Frag) : Sp := fun vs H Q _ => ∃ (p dx D : Addr) (o : V) (ks gs : List Str) (rs : List Rule) (kvs : List (Key × V)), vs = [.ref p] ∧ PlA K H p dx D o ks gs rs kvs ∧ ∀ H' l, Same H H' → H l = none → H' l = some (.lst (plcs gs)) → Q (.ref l) H'
def spRule (K : PySem.W.Frag) : Sp := fun vs H Q _ => ∃ (p dx D : Addr) (o : V) (ks gs : List Str) (rs : List Rule) (kvs : List (Key × V)) (i : Nat), vs = [.ref p, kO (pk gs i)] ∧ i ≤ gs.length ∧ PlA K H p dx D o ks gs rs kvs ∧ ∀ v H', Same H H' → RuleV K H' v (ruleAt rs i) → Q v H'
theorem plcs_eq (gs : List Str) : gs.map V.str ++ [V.non] = plcs gs := by
  unfold plcs
  rw [List.range_succ, List.map_append]
  have e1 : (List.range gs.length).map (fun i => kO (pk gs i)) = gs.map V.str := by
    apply List.ext_getElem
    · rw [List.length_map, List.length_map, List.length_range]
    · intro i h1 h2
      rw [List.length_map, List.length_range] at h1
      rw [List.getElem_map, List.getElem_map, List.getElem_range]
      unfold pk
      rw [List.getElem?_eq_getElem h1]
      rfl
  rw [e1]
  congr 1
  show _ = [kO (pk gs gs.length)]
  unfold pk
  rw [List.getElem?_eq_none (Nat.le_refl _)]
  rfl
section
variable {P : Program} {w : World} {K : PySem.W.Frag} {mg : Str → Option Value} {base : Heap}
theorem ok_plan_init (T : Tx K mg) : CalI P w K mg base 3 "Plan" (CP K) ["self", "rules", "others"] (spPlanInit K) := by
  obtain ⟨fd, F⟩ := T.d_Plan_init
  refine ⟨T.g_Plan, _, fd, T.k_Plan, F.binds (ps := ["self", "rules", "others"]) fun _ _ _ _ _ _ us hl => match us, hl with | [_, _, _], _ => rfl, F.ok sc_Plan_init (fun vs H Q E h => ?_) (fun cdv A outer s H vs Q E hr h => ?_)⟩
  · obtain ⟨p, dx, D, o, ks, gs, rs, kvs, rfl, _⟩ := h
    rfl
  · obtain ⟨p, dx, D, o, ks, gs, rs, kvs, rfl, hp, R, k⟩ := h
    have nd := sc_Plan_init.nd
    have cl := T.c_Plan
    refine ⟨_, pss_cons (ps_set (i := 3) nd rfl (.inl rfl) (pe_f (ok_check_plan T) hr rfl (pa_cons (pv 1) (pa_cons (pv 2) pa_nil))))
      (pss_cons (ps_if (pt_cmp (pc_notN (pv 3))) pss_never pss_nil)
      (pss_cons (ps_fld (pv 0) (pe_callTy call_dictD (by rfl) T.f_dict (by decide +kernel) (pa_cons (pv 1) pa_nil)) rfl)
      (pss_one (ps_fld (pv 0) (pv 2) rfl)))), ?_⟩
    refine ⟨_, rfl, _, rfl, D, o, ks, gs, rs, kvs, rfl, R, fun H1 s1 => ?_⟩
    refine ⟨_, rfl, false, rfl, ?_⟩
    refine iteF ?_
    have R1 := R.same s1
    refine ⟨_, rfl, D, kvs, rfl, .inl R1.dict, fun D' hD' => ?_⟩
    have s2 := same_new (o := .dK kvs) hD'
    have npD : p ≠ D' := ne_of_none (s1 _ _ hp) hD'
    refine ⟨_, rfl, p, _, dx, [], rfl, s2 _ _ (s1 _ _ hp), cl, T.n_Plan_rules, (by show 0 < 1000; decide), ?_⟩
    refine ⟨_, rfl, _, rfl, p, _, dx, _, rfl, upd_same, cl, T.n_Plan_others, (by show 1 < 1000; decide), ?_⟩
    rw [upd_upd]
    have e1 : putF "others" o (putF "rules" (.ref D') []) = plF D' o := by kernel_rfl
    rw [e1]
    have oo : ∀ b ob, H b = some ob → b ≠ p → upd (upd H1 D' (.dK kvs)) p (.ins (CP K) dx (plF D' o)) b = some ob := fun b ob eb hb => by
      rw [upd_ne hb]
      exact s2 _ _ (s1 _ _ eb)
    have hpn : ∀ xs, H p ≠ some (.tup xs) := fun xs z => by rw [hp] at z; cases z
    refine k D' _ (s1.free hD') oo ⟨upd_same, R.at ⟨fun b xs e => oo b _ e fun z => by subst z; exact hpn xs e, fun b ob u e => oo b _ e fun z => by subst z; rw [hp] at e; cases e⟩ ?_⟩
    rw [upd_ne npD.symm, upd_same]
theorem ok_place_of (T : Tx K mg) : CalM P w K mg base 1 (CP K) "place_of" ["self", "group"] (spPlaceOf K) := by
  obtain ⟨fd, F⟩ := T.d_Plan_place_of
  refine ⟨T.c_Plan, _, fd, T.m_Plan_place_of, F.binds (ps := ["self", "group"]) fun _ _ _ _ _ _ us hl => match us, hl with | [_, _], _ => rfl, F.ok sc_Plan_place_of (fun vs H Q E h => ?_) (fun cdv A outer s H vs Q E hr h => ?_)⟩
  · obtain ⟨p, dx, D, o, ks, gs, rs, kvs, g, rfl, _⟩ := h
    rfl
  · obtain ⟨p, dx, D, o, ks, gs, rs, kvs, g, rfl, L, k⟩ := h
    have cl := T.c_Plan
    have hu := hr.units
    refine ⟨_, pss_one (ps_ret (pe_ifExp (pt_cmp (pc_din (Nat.lt_of_le_of_lt (Nat.add_le_add_left (show 1 ≤ 64 by decide) _) hu) (pv 1) (pe_fld (pv 0) rfl))) (pv 1) pe_non)), ?_⟩
    refine ⟨_, rfl, _, rfl, p, _, dx, _, _, rfl, L.ins, cl, T.n_Plan_rules, pl_rules _ _, D, _, rfl, DGet.k (k := .inr g) L.ru.dict, _, rfl, ?_⟩
    rw [valV_keys L.ru.keys, decide_eq_decide.mpr (L.ru.ok.mem g)]
    have e := k H (Same.refl H)
    rw [pk_pix] at e
    refine ite2 (fun h => ?_) (fun h => ?_)
    · rw [if_pos (of_decide_eq_true h)] at e
      exact ⟨_, rfl, e⟩
    · rw [if_neg fun z => h (decide_eq_true z)] at e
      exact e
theorem ok_places (T : Tx K mg) : CalM P w K mg base 1 (CP K) "places" ["self"] (spPlaces K) := by
  obtain ⟨fd, F⟩ := T.d_Plan_places
  refine ⟨T.c_Plan, _, fd, T.m_Plan_places, F.binds (ps := ["self"]) fun _ _ _ _ _ _ us hl => match us, hl with | [_], _ => rfl, F.ok sc_Plan_places (fun vs H Q E h => ?_) (fun cdv A outer s H vs Q E hr h => ?_)⟩
  · obtain ⟨p, dx, D, o, ks, gs, rs, kvs, rfl, _⟩ := h
    rfl
  · obtain ⟨p, dx, D, o, ks, gs, rs, kvs, rfl, L, k⟩ := h
    have cl := T.c_Plan
    obtain ⟨hk1, hk2, hk3⟩ := L.ru.ok.len
    refine ⟨_, pss_one (ps_ret (pe_op op_cat (pe_callB (call_sortedD rfl) (by rfl) T.f_sorted (by decide +kernel) (pa_cons (pe_fld (pv 0) rfl) pa_nil)) (pe_lst (pa_cons pe_non pa_nil)))), ?_⟩
    refine ⟨_, rfl, p, _, dx, _, _, rfl, L.ins, cl, T.n_Plan_rules, pl_rules _ _, D, kvs, ks, rfl, .inl L.ru.dict, L.ru.keys, by omega, fun ys q hys hsr hq => ?_⟩
    have e := L.ru.ok.sorted hys hsr
    subst e
    have s1 := same_new (o := .lst (ys.map V.str)) hq
    refine ⟨(by show 1 ≤ sizeLine; decide), fun r hr1 => ?_⟩
    have s2 := same_new (o := .lst [V.non]) hr1
    refine ⟨q, r, _, _, rfl, rfl, s2 _ _ upd_same, upd_same, (by rw [List.length_map, sizeLine_eq]; show _ + 1 ≤ _; omega), fun l hl => ?_⟩
    rw [plcs_eq]
    exact k _ l ((s1.trans s2).trans (same_new hl)) ((s1.trans s2).free hl) upd_same
theorem ok_rule (T : Tx K mg) : CalM P w K mg base 1 (CP K) "rule" ["self", "place"] (spRule K) := by
  obtain ⟨fd, F⟩ := T.d_Plan_rule
  refine ⟨T.c_Plan, _, fd, T.m_Plan_rule, F.binds (ps := ["self", "place"]) fun _ _ _ _ _ _ us hl => match us, hl with | [_, _], _ => rfl, F.ok sc_Plan_rule (fun vs H Q E h => ?_) (fun cdv A outer s H vs Q E hr h => ?_)⟩
  · obtain ⟨p, dx, D, o, ks, gs, rs, kvs, i, rfl, _⟩ := h
    rfl
  · obtain ⟨p, dx, D, o, ks, gs, rs, kvs, i, rfl, hi, L, k⟩ := h
    have cl := T.c_Plan
    have hu := hr.units
    refine ⟨_, pss_one (ps_ret (pe_ifExp (pt_cmp (pc_isN (pv 1))) (pe_fld (pv 0) rfl) (pe_dget (Nat.lt_of_le_of_lt (Nat.add_le_add_left (show 1 ≤ 64 by decide) _) hu) (pe_fld (pv 0) rfl) (pv 1) (fun _ _ => rfl)))), ?_⟩
    refine ⟨_, rfl, _, rfl, ?_⟩
    cases hg : gs[i]? with
    | none =>
      have e : pk gs i = none := by unfold pk; rw [hg]; rfl
      have ei : i = gs.length := by
        have := List.getElem?_eq_none_iff.mp hg
        omega
      rw [e]
      refine iteT ?_
      subst ei
      exact ⟨_, rfl, p, _, dx, _, _, rfl, L.ins, cl, T.n_Plan_others, pl_others _ _, k _ H (Same.refl H) L.ru.oth⟩
    | some g =>
      have e : pk gs i = some (.inr g) := by unfold pk; rw [hg]; rfl
      rw [e]
      refine iteF ?_
      obtain ⟨v, hv, hR⟩ := L.ru.pl hg
      exact ⟨_, rfl, p, _, dx, _, _, rfl, L.ins, cl, T.n_Plan_rules, pl_rules _ _, _, rfl, D, v, rfl, by rw [← hv]; exact DGet.k (k := .inr g) L.ru.dict, k v H (Same.refl H) hR⟩
end
end Sam

set_option maxHeartbeats 4000000
set_option pp.maxSteps 600
namespace Sam
open PySem PySem.Spec PyProof.Rows L2
/-! ### tables by keys in a row -/
section
variable {κ : Type} [DecidableEq κ]
theorem zip_none : ∀ {ks : List κ} {vs : List V} {k : κ}, k ∉ ks → valV (ks.zip vs) k = none
  | [], _, _, _ => rfl
  | _ :: _, [], _, _ => rfl
  | j :: ks, v :: vs, k, h => by
    rw [List.zip_cons_cons, valV_neg (p := (j, v)) (fun z => h (by rw [← z]; exact List.mem_cons_self))]
    exact zip_none fun z => h (List.mem_cons_of_mem _ z)
theorem zip_val : ∀ {ks : List κ} {vs : List V} {i : Nat} {k : κ}, ks.Nodup → ks[i]? = some k → vs.length = ks.length → valV (ks.zip vs) k = vs[i]?
  | [], _, _, _, _, h, _ => by simp at h
  | _ :: _, [], _, _, _, _, h => by simp at h
  | j :: ks, v :: vs, 0, k, _, h, _ => by
    have e : j = k := by simpa using h
    rw [List.zip_cons_cons, valV_pos (p := (j, v)) e]
    rfl
  | j :: ks, v :: vs, i + 1, k, hn, h, hl => by
    rw [List.nodup_cons] at hn
    have h' : ks[i]? = some k := by simpa using h
    rw [List.zip_cons_cons, valV_neg (p := (j, v)) (fun z => hn.1 (by rw [show j = k from z]; exact List.mem_of_getElem? h')), zip_val hn.2 h' (by simpa using hl)]
    rfl
theorem putK_cons_ne {p : κ × V} {r : List (κ × V)} {k : κ} {v : V} (h : p.1 ≠ k) : putK (p :: r) k v = p :: putK r k v := by
  unfold putK
  rw [List.any_cons, decide_eq_false h, Bool.false_or, List.map_cons, if_neg h]
  split <;> rfl
theorem map_other : ∀ {r : List (κ × V)} {k : κ} {v : V}, k ∉ r.map Prod.fst → r.map (fun kv => if kv.1 = k then (kv.1, v) else kv) = r
  | [], _, _, _ => rfl
  | p :: r, k, v, h => by
    rw [List.map_cons, List.mem_cons, not_or] at h
    rw [List.map_cons, if_neg (Ne.symm h.1), map_other h.2]
theorem zip_put : ∀ {ks : List κ} {vs : List V} {i : Nat} {k : κ} {v : V}, ks.Nodup → ks[i]? = some k → vs.length = ks.length → putK (ks.zip vs) k v = ks.zip (vs.set i v)
  | [], _, _, _, _, _, h, _ => by simp at h
  | _ :: _, [], _, _, _, _, _, h => by simp at h
  | j :: ks, u :: vs, 0, k, v, hn, h, hl => by
    have e : j = k := by simpa using h
    subst e
    rw [List.nodup_cons] at hn
    rw [List.zip_cons_cons, List.set_cons_zero, List.zip_cons_cons]
    unfold putK
    rw [List.any_cons, decide_eq_true rfl, Bool.true_or, if_pos rfl, List.map_cons, if_pos rfl, map_other fun z => ?_]
    rw [List.map_fst_zip (by rw [List.length_cons, List.length_cons] at hl; omega)] at z
    exact hn.1 z
  | j :: ks, u :: vs, i + 1, k, v, hn, h, hl => by
    rw [List.nodup_cons] at hn
    have h' : ks[i]? = some k := by simpa using h
    rw [List.zip_cons_cons, putK_cons_ne (fun z => hn.1 (by rw [show j = k from z]; exact List.mem_of_getElem? h')), zip_put hn.2 h' (by simpa using hl)]
    rfl
theorem zip_new {ks : List κ} {vs : List V} {i : Nat} {k : κ} {v : V} (hn : ks.Nodup) (h : ks[i]? = some k) (hl : vs.length = i) : putK ((ks.take i).zip vs) k v = (ks.take (i + 1)).zip (vs ++ [v]) := by
  have hi := (List.getElem?_eq_some_iff.mp h).1
  have hk : k ∉ ks.take i := fun z => by
    obtain ⟨j, hj, e⟩ := List.mem_iff_getElem.mp z
    rw [List.length_take] at hj
    rw [List.getElem_take] at e
    have e2 : ks[i] = k := (List.getElem?_eq_some_iff.mp h).2
    exact List.pairwise_iff_getElem.mp hn j i (by omega) hi (by omega) (e.trans e2.symm)
  rw [putK_new v (zip_none hk), List.take_add_one, h, Option.toList_some, List.zip_append (by rw [List.length_take]; omega)]
  rfl
end
def pks (gs : List Str) : List (Option Key) := (List.range (gs.length + 1)).map (pk gs)
theorem pks_len (gs : List Str) : (pks gs).length = gs.length + 1 := by unfold pks; rw [List.length_map, List.length_range]
theorem pks_at {gs : List Str} {i : Nat} (h : i ≤ gs.length) : (pks gs)[i]? = some (pk gs i) := by
  unfold pks
  rw [List.getElem?_map, List.getElem?_range (by omega)]
  rfl
theorem pks_eq (gs : List Str) : pks gs = gs.map (fun g => some (Sum.inr g)) ++ [none] := by
  unfold pks
  rw [List.range_succ, List.map_append]
  have e1 : (List.range gs.length).map (pk gs) = gs.map (fun g => some (Sum.inr g)) := by
    apply List.ext_getElem
    · rw [List.length_map, List.length_map, List.length_range]
    · intro i h1 h2
      rw [List.length_map, List.length_range] at h1
      rw [List.getElem_map, List.getElem_map, List.getElem_range]
      unfold pk
      rw [List.getElem?_eq_getElem h1]
      rfl
  rw [e1]
  congr 1
  show [pk gs gs.length] = _
  unfold pk
  rw [List.getElem?_eq_none (Nat.le_refl _)]
  rfl
theorem nodup_map {α β : Type} {f : α → β} (hf : ∀ a b, f a = f b → a = b) {l : List α} (h : l.Nodup) : (l.map f).Nodup := List.pairwise_map.mpr (h.imp fun hn e => hn (hf _ _ e))
theorem pks_nodup {gs : List Str} (h : gs.Nodup) : (pks gs).Nodup := by
  rw [pks_eq, List.nodup_append]
  refine ⟨?_, by simp, ?_⟩
  · exact nodup_map (fun a b e => Sum.inr.inj (Option.some.inj e)) h
  · intro a ha b hb e
    obtain ⟨g, _, rfl⟩ := List.mem_map.mp ha
    rw [List.mem_singleton.mp hb] at e
    cases e
theorem plcs_map (gs : List Str) : plcs gs = (pks gs).map kO := by
  unfold plcs pks
  rw [List.map_map]
  rfl
theorem plcs_at {gs : List Str} {i : Nat} {v : V} (h : (plcs gs)[i]? = some v) : i ≤ gs.length ∧ v = kO (pk gs i) := by
  unfold plcs at h
  have hi := (List.getElem?_eq_some_iff.mp h).1
  rw [List.length_map, List.length_range] at hi
  rw [List.getElem?_map, List.getElem?_range hi] at h
  exact ⟨by omega, (Option.some.inj h).symm⟩
theorem plcs_len (gs : List Str) : (plcs gs).length = gs.length + 1 := by unfold plcs; rw [List.length_map, List.length_range]
/-! ### samples by the rule -/
def spEmptyS (K : PySem.W.Frag) : Sp := fun vs H Q _ => ∃ (v : V) (r : Rule), vs = [v] ∧ RuleV K H v r ∧ 1 ≤ r.2 ∧ r.2 ≤ 20 ∧ NewSm K H (empty_ r) Q
def spSingleS (K : PySem.W.Frag) : Sp := fun vs H Q _ => ∃ (v : V) (r : Rule) (x : Itm), vs = [v, itR x] ∧ RuleV K H v r ∧ 1 ≤ r.2 ∧ r.2 ≤ 20 ∧ ItAt K H x ∧ NewSm K H (single r x) Q
def spSamePlan (K : PySem.W.Frag) : Sp := fun vs H Q _ => ∃ (p dx D p' dx' D' : Addr) (o : V) (ks gs : List Str) (rs : List Rule) (kvs : List (Key × V)), vs = [.ref p, .ref p'] ∧ PlA K H p dx D o ks gs rs kvs ∧ PlA K H p' dx' D' o ks gs rs kvs ∧ ∀ H', Same H H' → Q (.bl true) H'
theorem rule_shaped (un : Bool) (n : Int) : SeqAt.shaped (.tuple [.str (knd un), .int n]) = true := by
  have h : PyData.strOk (knd un) = true := by cases un <;> decide +kernel
  simp [SeqAt.shaped, PyData.canLay0, PyData.canLayAll0, PyData.depth, PyData.depthAll, h]
theorem knd_u (un : Bool) : decide (V.str (knd un) = V.str "uniform") = un := by cases un <;> decide +kernel
theorem knd_w (un : Bool) : decide (V.str (knd un) = V.str "weighted") = !un := by cases un <;> decide +kernel
section
variable {P : Program} {w : World} {K : PySem.W.Frag} {mg : Str → Option Value} {base : Heap}
theorem ok_empty_sample (T : Tx K mg) : Cal P w K mg base 4 "empty_sample" ["rule"] (spEmptyS K) := by
  obtain ⟨fd, F⟩ := T.d_empty_sample
  refine ⟨_, fd, T.g_empty_sample, F.kp, F.binds (ps := ["rule"]) fun _ _ _ _ _ _ us hl => match us, hl with | [_], _ => rfl, F.ok sc_empty_sample (fun vs H Q E h => ?_) (fun cdv A outer s H vs Q E hr h => ?_)⟩
  · obtain ⟨v, r, rfl, _⟩ := h
    rfl
  · obtain ⟨v, ⟨un, size⟩, rfl, ⟨t, rfl, ht⟩, h1, h2, k⟩ := h
    have nd := sc_empty_sample.nd
    refine ⟨_, pss_cons (ps_asg (pv 0) (pg_tup rfl (pgs_cons (pg_name (i := 1) nd rfl (.inl rfl)) (pgs_cons (pg_name (i := 2) nd rfl (.inl rfl)) pgs_nil))))
      (pss_cons (ps_if (pt_cmpR op_eq (pv 1) pe_str (nomark _)) (pss_one (ps_ret (pe_cm (pe_glob rfl T.g_Uniform (v := .ref _) rfl) (ok_Uniform_empty T) hr (pa_cons (pv 2) pa_nil)))) pss_nil)
      (pss_cons (ps_if (pt_cmpR op_eq (pv 1) pe_str (nomark _)) (pss_one (ps_ret (pe_cm (pe_glob rfl T.g_Weighted (v := .ref _) rfl) (ok_Weighted_empty T) hr (pa_cons (pv 2) pa_nil)))) pss_nil) pss_never)), ?_⟩
    refine ⟨_, rfl, t, _, rfl, ht, rfl, _, _, rfl, _, _, rfl, rfl, _, rfl, rfl, _, rfl, ?_⟩
    show if decide (V.str (knd un) = V.str "uniform") = true then _ else _
    rw [knd_u]
    cases un with
    | true =>
      refine iteT ?_
      exact ⟨rfl, _, rfl, size, rfl, h1, h2, k⟩
    | false =>
      refine iteF ?_
      refine ⟨_, rfl, rfl, _, rfl, ?_⟩
      show if decide (V.str (knd false) = V.str "weighted") = true then _ else _
      rw [knd_w]
      refine iteT ?_
      exact ⟨rfl, _, rfl, size, rfl, h1, h2, k⟩
theorem ok_single_sample (T : Tx K mg) : Cal P w K mg base 4 "single_sample" ["rule", "item"] (spSingleS K) := by
  obtain ⟨fd, F⟩ := T.d_single_sample
  refine ⟨_, fd, T.g_single_sample, F.kp, F.binds (ps := ["rule", "item"]) fun _ _ _ _ _ _ us hl => match us, hl with | [_, _], _ => rfl, F.ok sc_single_sample (fun vs H Q E h => ?_) (fun cdv A outer s H vs Q E hr h => ?_)⟩
  · obtain ⟨v, r, x, rfl, _⟩ := h
    rfl
  · obtain ⟨v, ⟨un, size⟩, x, rfl, ⟨t, rfl, ht⟩, h1, h2, hx, k⟩ := h
    have nd := sc_single_sample.nd
    refine ⟨_, pss_cons (ps_asg (pv 0) (pg_tup rfl (pgs_cons (pg_name (i := 2) nd rfl (.inl rfl)) (pgs_cons (pg_name (i := 3) nd rfl (.inl rfl)) pgs_nil))))
      (pss_cons (ps_if (pt_cmpR op_eq (pv 2) pe_str (nomark _)) (pss_one (ps_ret (pe_cm (pe_glob rfl T.g_Uniform (v := .ref _) rfl) (ok_Uniform_single T) hr (pa_cons (pv 1) (pa_cons (pv 3) pa_nil))))) pss_nil)
      (pss_cons (ps_if (pt_cmpR op_eq (pv 2) pe_str (nomark _)) (pss_one (ps_ret (pe_cm (pe_glob rfl T.g_Weighted (v := .ref _) rfl) (ok_Weighted_single T) hr (pa_cons (pv 1) (pa_cons (pv 3) pa_nil))))) pss_nil) pss_never)), ?_⟩
    refine ⟨_, rfl, t, _, rfl, ht, rfl, _, _, rfl, _, _, rfl, rfl, _, rfl, rfl, _, rfl, ?_⟩
    show if decide (V.str (knd un) = V.str "uniform") = true then _ else _
    rw [knd_u]
    cases un with
    | true =>
      refine iteT ?_
      exact ⟨rfl, _, rfl, _, rfl, size, x, rfl, h1, h2, hx, k⟩
    | false =>
      refine iteF ?_
      refine ⟨_, rfl, rfl, _, rfl, ?_⟩
      show if decide (V.str (knd false) = V.str "weighted") = true then _ else _
      rw [knd_w]
      refine iteT ?_
      exact ⟨rfl, _, rfl, _, rfl, size, x, rfl, h1, h2, hx, k⟩
theorem ok_same_plan (T : Tx K mg) : Cal P w K mg base 1 "same_plan" ["plan", "other"] (spSamePlan K) := by
  obtain ⟨fd, F⟩ := T.d_same_plan
  refine ⟨_, fd, T.g_same_plan, F.kp, F.binds (ps := ["plan", "other"]) fun _ _ _ _ _ _ us hl => match us, hl with | [_, _], _ => rfl, F.ok sc_same_plan (fun vs H Q E h => ?_) (fun cdv A outer s H vs Q E hr h => ?_)⟩
  · obtain ⟨p, dx, D, p', dx', D', o, ks, gs, rs, kvs, rfl, _⟩ := h
    rfl
  · obtain ⟨p, dx, D, p', dx', D', o, ks, gs, rs, kvs, rfl, L, L', k⟩ := h
    have cl := T.c_Plan
    refine ⟨_, pss_one (ps_ret (pe_and (pe_cmpR (op_eqV hr.units) (pe_fld (pv 0) rfl) (pe_fld (pv 1) rfl) (nomark _)) (pe_one (pe_cmpR (op_eqD hr.units) (pe_fld (pv 0) rfl) (pe_fld (pv 1) rfl) (nomark _))))), ?_⟩
    have hnd : (kvs.map (·.1)).Nodup := by
      rw [L.ru.keys]
      refine nodup_map (fun a b e => Sum.inr.inj e) ?_
      rcases L.ru.ok with ⟨rfl, rfl⟩ | ⟨rfl, rfl⟩ | ⟨rfl, rfl⟩ | ⟨rfl, rfl⟩ <;> decide +kernel
    refine ⟨_, rfl, p, _, dx, _, _, rfl, L.ins, cl, T.n_Plan_rules, pl_rules _ _, _, rfl, p', _, dx', _, _, rfl, L'.ins, cl, T.n_Plan_rules, pl_rules _ _, 1, by decide, .inr ⟨D, D', kvs, kvs, rfl, rfl, L.ru.dict, L'.ru.dict, rfl, fun q hq => ⟨q.2, val_nodup hnd q hq, ?_⟩⟩, ?_⟩
    · obtain ⟨r, ⟨t, e, _⟩, _⟩ := L.ru.all q hq
      exact .inr (.inl ⟨t, e, e⟩)
    refine ⟨true, rfl, ?_⟩
    refine iteT ?_
    obtain ⟨t, e, ht⟩ := L.ru.oth
    subst e
    refine ⟨_, rfl, p, _, dx, _, _, rfl, L.ins, cl, T.n_Plan_others, pl_others _ _, _, rfl, p', _, dx', _, _, rfl, L'.ins, cl, T.n_Plan_others, pl_others _ _, ?_⟩
    refine ⟨_, _, .tup ht (.cons (.str _) (.cons (.int _) .nil)), .tup ht (.cons (.str _) (.cons (.int _) .nil)), rule_shaped _ _, rule_shaped _ _, ?_⟩
    have e2 : PyData.eqv (.tuple [.str (knd (ruleAt rs gs.length).1), .int ((ruleAt rs gs.length).2 : Int)]) (.tuple [.str (knd (ruleAt rs gs.length).1), .int ((ruleAt rs gs.length).2 : Int)]) = true := by
      simp [PyData.eqv, PyData.eqvAll]
    rw [e2]
    exact k H (Same.refl H)
end
end Sam

set_option maxHeartbeats 4000000
set_option pp.maxSteps 600
namespace Sam
open PySem PySem.Spec PyProof.Rows L2
/-! ### stores -/
abbrev CS (K : PySem.W.Frag) : Addr := He.ga K "Store"
def stF (p pl sd : Addr) : List (Str × V) := [("plan", .ref p), ("parts", .ref pl), ("samples", .ref sd)]
theorem st_plan (p pl sd : Addr) : (stF p pl sd).lookup ("plan" : Str) = some (.ref p) := by kernel_rfl
theorem st_parts (p pl sd : Addr) : (stF p pl sd).lookup ("parts" : Str) = some (.ref pl) := by kernel_rfl
theorem st_samples (p pl sd : Addr) : (stF p pl sd).lookup ("samples" : Str) = some (.ref sd) := by kernel_rfl
theorem st_no (p pl sd : Addr) (m : Str) (h : (["plan", "parts", "samples"] : List Str).contains m = false) : (stF p pl sd).lookup m = none := by
  simp only [List.contains_eq_mem, decide_eq_false_iff_not, List.mem_cons, not_or] at h
  obtain ⟨h1, h2, h3, _⟩ := h
  unfold stF
  simp only [List.lookup, beq_eq_false_iff_ne.mpr h1, beq_eq_false_iff_ne.mpr h2, beq_eq_false_iff_ne.mpr h3]
/-- v is the sample s; N: cells that others change -/
def SmV (K : PySem.W.Frag) (N : Addr → Prop) (H : Hp) (v : V) (s : Smp) : Prop := ∃ b c bx, v = .ref b ∧ SmA K H b c bx s ∧ ¬ N b ∧ ¬ N c
theorem SmV.same {K : PySem.W.Frag} {N : Addr → Prop} {H H' : Hp} {v : V} {s : Smp} (h : SmV K N H v s) (k : Same H H') : SmV K N H' v s := let ⟨b, c, bx, e, a, n1, n2⟩ := h; ⟨b, c, bx, e, a.same k, n1, n2⟩
theorem SmV.kp {K : PySem.W.Frag} {N : Addr → Prop} {d : Dc} {H H' : Hp} {v : V} {s : Smp} (h : SmV K N H v s) (k : Kp d H H') (hN : ∀ b, d.X b → N b) : SmV K N H' v s := let ⟨b, c, bx, e, a, n1, n2⟩ := h; ⟨b, c, bx, e, a.kp k (fun z => n1 (hN _ z)) fun z => n2 (hN _ z), n1, n2⟩
structure StA (K : PySem.W.Frag) (P : Program) (w : World) (N : Addr → Prop) (H : Hp) (a dx p pdx D pl sd : Addr) (o : V) (ks gs : List Str) (rs : List Rule) (kvs : List (Key × V)) (ps : List Str) (vs : List V) (ss : List Smp) : Prop where
  ins : H a = some (.ins (CS K) dx (stF p pl sd))
  plan : PlA K H p pdx D o ks gs rs kvs
  prt : H pl = some (.lst (ps.map V.str))
  dic : H sd = some (dN P w sd ((pks gs).zip vs))
  sms : Paired (SmV K N H) vs ss
  len : ss.length = gs.length + 1
  plen : ps.length ≤ 8
  nx : ¬ N a ∧ ¬ N p ∧ ¬ N D ∧ ¬ N pl ∧ ¬ N sd
/-- all stays but the explorer's cells and the dict at sd -/
structure Kq (d : Dc) (sd : Addr) (H H' : Hp) : Prop where
  keep : ∀ b o, H b = some o → ¬ d.X b → b ≠ sd → H' b = some o
  ts : Ts H H'
theorem Kp.q {d : Dc} {sd : Addr} {H H' : Hp} (k : Kp d H H') : Kq d sd H H' := ⟨fun b o e n _ => k.keep b o e n, k.ts⟩
theorem Kq.trans {d : Dc} {sd : Addr} {H H1 H2 : Hp} (a : Kq d sd H H1) (b : Kq d sd H1 H2) : Kq d sd H H2 := ⟨fun c o e n m => b.keep c o (a.keep c o e n m) n m, a.ts.trans b.ts⟩
theorem Kp.then_q {d : Dc} {sd : Addr} {H H1 H2 : Hp} (a : Kp d H H1) (b : Kq d sd H1 H2) (h : H sd = none) : Kp d H H2 := ⟨fun c o e n => b.keep c o (a.keep c o e n) n (ne_of_none e h), a.ts.trans b.ts⟩
/-- .. N in the place of the explorer's cells -/
structure Kn (N : Addr → Prop) (sd : Addr) (H H' : Hp) : Prop where
  keep : ∀ b o, H b = some o → ¬ N b → b ≠ sd → H' b = some o
  ts : Ts H H'
theorem Kq.n {d : Dc} {N : Addr → Prop} {sd : Addr} {H H' : Hp} (k : Kq d sd H H') (hN : ∀ b, d.X b → N b) : Kn N sd H H' := ⟨fun b o e n m => k.keep b o e (fun z => n (hN b z)) m, k.ts⟩
section
variable {K : PySem.W.Frag} {P : Program} {w : World} {d : Dc} {N : Addr → Prop} {H H' : Hp} {a dx p pdx D pl sd : Addr} {o : V} {ks gs : List Str} {rs : List Rule} {kvs : List (Key × V)} {ps : List Str} {vs : List V} {ss : List Smp}
theorem StA.ne_sd (h : StA K P w N H a dx p pdx D pl sd o ks gs rs kvs ps vs ss) : a ≠ sd ∧ p ≠ sd ∧ D ≠ sd ∧ pl ≠ sd :=
  ⟨ne_of h.ins h.dic (fun z => nomatch z), ne_of h.plan.ins h.dic (fun z => nomatch z), ne_of h.plan.ru.dict h.dic (fun z => nomatch z), ne_of h.prt h.dic (fun z => nomatch z)⟩
theorem SmV.ne_sd {v : V} {s : Smp} (h : SmV K N H v s) {q : Addr} {φ : Heap → Prop} (e : H q = some (.ext φ)) (k : Kn N q H H') : SmV K N H' v s := by
  obtain ⟨b, c, bx, rfl, A, n1, n2⟩ := h
  exact ⟨b, c, bx, rfl, ⟨k.keep _ _ A.ins n1 (ne_of A.ins e (fun z => nomatch z)), k.keep _ _ A.lst n2 (ne_of A.lst e (fun z => nomatch z)), fun x hx => (A.its x hx).ts k.ts⟩, n1, n2⟩
theorem StA.same (h : StA K P w N H a dx p pdx D pl sd o ks gs rs kvs ps vs ss) (k : Same H H') : StA K P w N H' a dx p pdx D pl sd o ks gs rs kvs ps vs ss :=
  ⟨k _ _ h.ins, h.plan.same k, k _ _ h.prt, k _ _ h.dic, L2.Paired.mapP h.sms fun _ _ q => q.same k, h.len, h.plen, h.nx⟩
theorem StA.kp (h : StA K P w N H a dx p pdx D pl sd o ks gs rs kvs ps vs ss) (k : Kp d H H') (hN : ∀ b, d.X b → N b) : StA K P w N H' a dx p pdx D pl sd o ks gs rs kvs ps vs ss :=
  ⟨k.keep _ _ h.ins fun z => h.nx.1 (hN _ z), h.plan.kp k (fun z => h.nx.2.1 (hN _ z)) fun z => h.nx.2.2.1 (hN _ z), k.keep _ _ h.prt fun z => h.nx.2.2.2.1 (hN _ z), k.keep _ _ h.dic fun z => h.nx.2.2.2.2 (hN _ z), L2.Paired.mapP h.sms fun _ _ q => q.kp k hN, h.len, h.plen, h.nx⟩
/-- one of N changes -/
theorem StA.nn (h : StA K P w N H a dx p pdx D pl sd o ks gs rs kvs ps vs ss) {q : Addr} {u : HO} (hq : N q) (t : Ts H (L2.upd H q u)) : StA K P w N (L2.upd H q u) a dx p pdx D pl sd o ks gs rs kvs ps vs ss := by
  have ne : ∀ b, ¬ N b → b ≠ q := fun b n z => n (by rw [z]; exact hq)
  exact ⟨by rw [upd_ne (ne _ h.nx.1)]; exact h.ins, ⟨by rw [upd_ne (ne _ h.nx.2.1)]; exact h.plan.ins, h.plan.ru.at t (by rw [upd_ne (ne _ h.nx.2.2.1)]; exact h.plan.ru.dict)⟩, by rw [upd_ne (ne _ h.nx.2.2.2.1)]; exact h.prt, by rw [upd_ne (ne _ h.nx.2.2.2.2)]; exact h.dic,
    L2.Paired.mapP h.sms fun _ _ ⟨b, c, bx, e, A, n1, n2⟩ => ⟨b, c, bx, e, ⟨by rw [upd_ne (ne _ n1)]; exact A.ins, by rw [upd_ne (ne _ n2)]; exact A.lst, fun x hx => (A.its x hx).ts t⟩, n1, n2⟩, h.len, h.plen, h.nx⟩
theorem StA.vlen (h : StA K P w N H a dx p pdx D pl sd o ks gs rs kvs ps vs ss) : vs.length = (pks gs).length := by rw [Paired.len h.sms, h.len, pks_len]
end
/-- .. all but a stays -/
def KeepA (a : Addr) (H H' : Hp) : Prop := ∀ b ob, H b = some ob → b ≠ a → H' b = some ob
def spStInit (K : PySem.W.Frag) (P : Program) (w : World) : Sp := fun vs H Q _ => ∃ (N : Addr → Prop) (a dx p pdx D l : Addr) (o : V) (ks gs : List Str) (rs : List Rule) (kvs : List (Key × V)) (xs : List Str), vs = [.ref a, .ref p, .ref l] ∧ H a = some (.ins (CS K) dx []) ∧
  PlA K H p pdx D o ks gs rs kvs ∧ SqL K H l (xs.map V.str) ∧ xs.length ≤ 8 ∧ (∀ b, H b = none → ¬ N b) ∧ ¬ N a ∧ p ≠ a ∧ l ≠ a ∧
  ∀ (H' : Hp) (p' pdx' D' pl sd : Addr) (ps : List Str) (vs' : List V), KeepA a H H' → ps.Perm xs → H sd = none → StA K P w N H' a dx p' pdx' D' pl sd o ks gs rs kvs ps vs' (empties rs) → Q .non H'
theorem empties_len {gs : List Str} {rs : List Rule} (R : RsOk gs rs) : (empties rs).length = gs.length + 1 := by unfold empties; rw [List.length_map, R.len]
theorem empties_at {rs : List Rule} {i : Nat} (h : i < rs.length) : (empties rs)[i]? = some (empty_ (ruleAt rs i)) := by
  unfold empties ruleAt
  rw [List.getElem?_map, List.getElem?_eq_getElem h, List.getD_eq_getElem?_getD, List.getElem?_eq_getElem h]
  rfl
theorem sort_len {ys xs : List Str} (h : ys.Perm xs) (hl : xs.length ≤ 8) : ys.length ≤ 8 := by rw [h.length_eq]; exact hl
section
variable {P : Program} {w : World} {K : PySem.W.Frag} {mg : Str → Option Value} {base : Heap}
theorem ok_store_init (T : Tx K mg) : CalI P w K mg base 5 "Store" (CS K) ["self", "plan", "parts"] (spStInit K P w) := by
  obtain ⟨fd, F⟩ := T.d_Store_init
  refine ⟨T.g_Store, _, fd, T.k_Store, F.binds (ps := ["self", "plan", "parts"]) fun _ _ _ _ _ _ us hl => match us, hl with | [_, _, _], _ => rfl, F.ok sc_Store_init (fun vs H Q E h => ?_) (fun cdv A outer s H vs Q E hr h => ?_)⟩
  · obtain ⟨N, a, dx, p, pdx, D, l, o, ks, gs, rs, kvs, xs, rfl, _⟩ := h
    rfl
  · obtain ⟨N, a, dx, p, pdx, D, l, o, ks, gs, rs, kvs, xs, rfl, ha, L, hl, hx8, hd, hax, hpa, hla, k⟩ := h
    have nd := sc_Store_init.nd
    have cl := T.c_Store
    have cp := T.c_Plan
    refine ⟨_, pss_cons (ps_fld (pv 0) (pe_mk' (ok_plan_init T) hr rfl (pa_cons (pe_fld (pv 1) rfl) (pa_cons (pe_fld (pv 1) rfl) pa_nil))) rfl)
      (pss_cons (ps_fld (pv 0) (pe_callB cr_sortedS (by rfl) T.f_sorted (by decide +kernel) (pa_cons (pv 2) pa_nil)) rfl)
      (pss_one (ps_fld (pv 0) (pe_dcN (own := [("place", 3)]) (g := gName 3) rfl nd (pi_list (pe_m0 (pv 1) (ok_places T) hr)) (blkOk_by (N := ["self", "plan", "parts", "place"]) (sc := defScope s_Store_init) (by decide +kernel))
        (fun _ _ _ _ _ => pg_name (i := 3) nd rfl (Or.inl rfl)) (fun _ _ _ _ _ => pv 3) (fun _ _ _ _ _ => pe_f (ok_empty_sample T) hr rfl (pa_cons (pe_m (pv 1) (ok_rule T) hr (pa_cons (pv 3) pa_nil)) pa_nil))) rfl))), ?_⟩
    -- self.plan = Plan(plan.rules, plan.others)
    refine ⟨_, rfl, p, _, pdx, _, _, rfl, L.ins, cp, T.n_Plan_rules, pl_rules _ _, _, rfl, p, _, pdx, _, _, rfl, L.ins, cp, T.n_Plan_others, pl_others _ _, fun q dq hq hdq hne => ?_⟩
    have sm := made_same (C := CP K) hq hdq hne
    refine ⟨q, dq, D, o, ks, gs, rs, kvs, rfl, upd_same, L.ru.same sm, fun D' H1 hD' oo LA => ?_⟩
    have s1 : Same H H1 := fun b ob eb => oo b ob (sm b ob eb) (ne_of_none eb hq)
    have hD0 := sm.free hD'
    have nqa : q ≠ a := (ne_of_none ha hq).symm
    have nDa : D' ≠ a := (ne_of_none ha hD0).symm
    refine ⟨rfl, ?_⟩
    refine ⟨_, rfl, a, _, dx, [], rfl, s1 _ _ ha, cl, T.n_Store_plan, (by show 0 < 1000; decide), ?_⟩
    -- self.parts = sorted(parts)
    have t2 : Ts H1 (upd H1 a (.ins (CS K) dx (putF "plan" (.ref q) []))) := ts_ins (s1 _ _ ha)
    have o2 : ∀ b, b ≠ a → upd H1 a (.ins (CS K) dx (putF "plan" (.ref q) [])) b = H1 b := fun b hb => upd_ne hb
    have a2 : upd H1 a (.ins (CS K) dx (putF "plan" (.ref q) [])) a = some (.ins (CS K) dx (putF "plan" (.ref q) [])) := upd_same
    generalize upd H1 a (.ins (CS K) dx (putF "plan" (.ref q) [])) = H2 at t2 o2 a2 ⊢
    have hl2 : SqL K H2 l (xs.map V.str) := by
      rcases hl with (e | ⟨ob, e⟩) | e
      · exact .inl (.inl (by rw [o2 l hla]; exact s1 _ _ e))
      · exact .inl (.inr ⟨ob, by rw [o2 l hla]; exact s1 _ _ e⟩)
      · exact .inr e
    refine ⟨_, rfl, l, xs, rfl, hl2, by omega, fun ps pl hps _ hpl => ?_⟩
    have npa : pl ≠ a := (ne_of_none a2 hpl).symm
    have s3 := same_new (o := .lst (ps.map V.str)) hpl
    refine ⟨_, rfl, a, _, dx, _, rfl, s3 _ _ a2, cl, T.n_Store_parts, (by show 1 < 1000; decide), ?_⟩
    have t4 : Ts H2 (upd (upd H2 pl (.lst (ps.map V.str))) a (.ins (CS K) dx (putF "parts" (.ref pl) (putF "plan" (.ref q) [])))) := (Ts.of_same s3).trans (ts_ins (s3 _ _ a2))
    have o4 : ∀ b, b ≠ a → upd (upd H2 pl (.lst (ps.map V.str))) a (.ins (CS K) dx (putF "parts" (.ref pl) (putF "plan" (.ref q) []))) b = upd H2 pl (.lst (ps.map V.str)) b := fun b hb => upd_ne hb
    have a4 : upd (upd H2 pl (.lst (ps.map V.str))) a (.ins (CS K) dx (putF "parts" (.ref pl) (putF "plan" (.ref q) []))) a = some (.ins (CS K) dx (putF "parts" (.ref pl) (putF "plan" (.ref q) []))) := upd_same
    generalize upd (upd H2 pl (.lst (ps.map V.str))) a (.ins (CS K) dx (putF "parts" (.ref pl) (putF "plan" (.ref q) []))) = H4 at t4 o4 a4 ⊢
    have k4 : ∀ b ob, H1 b = some ob → b ≠ a → H4 b = some ob := fun b ob e hb => by
      rw [o4 b hb]
      exact s3 _ _ (by rw [o2 b hb]; exact e)
    have f4 : ∀ b, H4 b = none → H b = none := fun b hb => by
      cases e : H b with
      | none => rfl
      | some ob =>
        have hba : b ≠ a := fun z => by rw [z, a4] at hb; cases hb
        rw [k4 b ob (s1 _ _ e) hba] at hb
        cases hb
    have L4 : PlA K H4 p pdx D o ks gs rs kvs := ⟨k4 _ _ (s1 _ _ L.ins) hpa, L.ru.at ((Ts.of_same s1).trans (t2.trans t4)) (k4 _ _ (s1 _ _ L.ru.dict) (ne_of L.ru.dict ha (fun z => nomatch z)))⟩
    have LA4 : PlA K H4 q dq D' o ks gs rs kvs := ⟨k4 _ _ LA.ins nqa, LA.ru.at (t2.trans t4) (k4 _ _ LA.ru.dict nDa)⟩
    have pl4 : H4 pl = some (.lst (ps.map V.str)) := by rw [o4 pl npa]; exact upd_same
    have hpl0 : H pl = none := by
      cases e : H pl with
      | none => rfl
      | some ob =>
        rw [o2 pl npa, s1 _ _ e] at hpl
        cases hpl
    -- self.samples
    refine ⟨_, rfl, p, pdx, _, rfl, L4.ins, pl_no _ _ _ (by decide +kernel), p, pdx, D, o, ks, gs, rs, kvs, rfl, L4, fun H5 lp s5 hlp hlpl => ?_⟩
    refine ⟨lp, rfl, ⟨_, SqL.of hlpl⟩, fun sd hsd => ?_⟩
    have nlsd : lp ≠ sd := ne_of_none hlpl hsd
    have hsd4 : H4 sd = none := s5.free hsd
    have hrl := L.ru.rok.len
    refine it_list (K := K) (a := lp) (xs := plcs gs) (fun i H' => Same H5 H' ∧ ∃ vs', vs'.length = i ∧ H' sd = some (dN P w sd (((pks gs).take i).zip vs')) ∧ Paired (fun v s => ∃ b c bx, v = .ref b ∧ SmA K H' b c bx s ∧ H5 b = none ∧ H5 c = none) vs' ((empties rs).take i)) ?_ (fun i H' _ h' => h'.1.seq (SqL.of hlpl)) ?_ ?_
    · exact ⟨same_new hsd, [], rfl, upd_same, .nil⟩
    · rintro i v H' hi ⟨s6, vs', hvl, hdl, hpr⟩
      obtain ⟨hig, rfl⟩ := plcs_at hi
      have L6 := L4.same (s5.trans s6)
      have hir : i < rs.length := by omega
      have hm := ruleAt_mem hir
      refine ⟨rfl, _, rfl, _, rfl, p, pdx, _, rfl, L6.ins, pl_no _ _ _ (by decide +kernel), _, rfl, p, pdx, D, o, ks, gs, rs, kvs, i, rfl, hig, L6, fun v H7 s7 hv => ?_⟩
      refine ⟨v, ruleAt rs i, rfl, hv, L.ru.rok.lo _ hm, Nat.le_trans (L.ru.rok.hi _ hm) (by decide), fun b c bx H8 hb hc s8 sA => ?_⟩
      refine ⟨_, pk gs i, rfl, s8 _ _ (s7 _ _ hdl), ?_, ?_⟩
      · rw [List.length_zip, List.length_take, sizeLine_eq]
        have : gs.length ≤ 2 := by have := L.ru.rok.le3; omega
        omega
      · have hb5 := s6.free (s7.free hb)
        have hc5 := s6.free (s7.free hc)
        have nb : b ≠ sd := fun z => by rw [z, s7 _ _ hdl] at hb; cases hb
        have nc : c ≠ sd := fun z => by rw [z, s7 _ _ hdl] at hc; cases hc
        have t9 : ∀ (g : HO), Ts H8 (upd H8 sd g) := fun g => ts_upd (s8 _ _ (s7 _ _ hdl)) (fun _ z => nomatch z) fun _ _ z => nomatch z
        refine ⟨fun g ob eg => ?_, vs' ++ [.ref b], by rw [List.length_append, hvl]; rfl, ?_, ?_⟩
        · rw [upd_ne (ne_of_none eg hsd)]
          exact s8 _ _ (s7 _ _ (s6 _ _ eg))
        · rw [upd_same, zip_new (pks_nodup L.ru.ok.nodup) (pks_at hig) hvl]
          rfl
        · rw [List.take_add_one, empties_at hir, Option.toList_some]
          refine pair_snoc (L2.Paired.mapP hpr fun v s ⟨b1, c1, bx1, e1, A1, n1, n2⟩ => ⟨b1, c1, bx1, e1, ?_, n1, n2⟩) ⟨b, c, bx, rfl, ?_, hb5, hc5⟩
          · have A2 := (A1.same s7).same s8
            have m1 : b1 ≠ sd := ne_of A1.ins hdl (fun z => nomatch z)
            have m2 : c1 ≠ sd := ne_of A1.lst hdl (fun z => nomatch z)
            exact ⟨by rw [upd_ne m1]; exact A2.ins, by rw [upd_ne m2]; exact A2.lst, fun x hx => (A2.its x hx).ts (t9 _)⟩
          · exact ⟨by rw [upd_ne nb]; exact sA.ins, by rw [upd_ne nc]; exact sA.lst, fun x hx => (sA.its x hx).ts (t9 _)⟩
    · rintro H6 ⟨s6, vs', hvl, hdl, hpr⟩
      rw [plcs_len] at hvl hdl hpr
      rw [show (pks gs).take (gs.length + 1) = pks gs from List.take_of_length_le (by rw [pks_len]; omega)] at hdl
      rw [show (empties rs).take (gs.length + 1) = empties rs from List.take_of_length_le (by rw [empties_len L.ru.rok]; omega)] at hpr
      have s46 := s5.trans s6
      have a6 := s46 _ _ a4
      refine ⟨_, rfl, a, _, dx, _, rfl, a6, cl, T.n_Store_samples, (by show 2 < 1000; decide), ?_⟩
      have e1 : putF "samples" (.ref sd) (putF "parts" (.ref pl) (putF "plan" (.ref q) [])) = stF q pl sd := by kernel_rfl
      rw [e1]
      have t7 : Ts H6 (upd H6 a (.ins (CS K) dx (stF q pl sd))) := ts_ins a6
      have nsa : sd ≠ a := (ne_of_none a4 hsd4).symm
      have LA6 := LA4.same s46
      refine k _ q dq D' pl sd ps vs' (fun b ob eb hb => ?_) hps (f4 _ hsd4) ⟨upd_same, ⟨by rw [upd_ne nqa]; exact LA6.ins, LA6.ru.at t7 (by rw [upd_ne nDa]; exact LA6.ru.dict)⟩, by rw [upd_ne npa]; exact s46 _ _ pl4, by rw [upd_ne nsa]; exact hdl, ?_, empties_len L.ru.rok, sort_len hps hx8, ⟨hax, hd q hq, hd D' hD0, hd pl hpl0, hd sd (f4 _ hsd4)⟩⟩
      · rw [upd_ne hb]
        exact s46 _ _ (k4 _ _ (s1 _ _ eb) hb)
      · refine L2.Paired.mapP hpr fun v s ⟨b, c, bx, e, A, n1, n2⟩ => ⟨b, c, bx, e, ?_, hd b (f4 b (s5.free n1)), hd c (f4 c (s5.free n2))⟩
        have m1 : b ≠ a := (ne_of_none (s5 _ _ a4) n1).symm
        have m2 : c ≠ a := (ne_of_none (s5 _ _ a4) n2).symm
        exact ⟨by rw [upd_ne m1]; exact A.ins, by rw [upd_ne m2]; exact A.lst, fun x hx => (A.its x hx).ts t7⟩
end
end Sam

set_option maxHeartbeats 4000000
set_option pp.maxSteps 600
namespace Sam
open PySem PySem.Spec PyProof.Rows L2
theorem ts_ext {H : Hp} {a : Addr} {φ : Heap → Prop} {u : HO} (h : H a = some (.ext φ)) : Ts H (upd H a u) := ts_upd h (fun _ q => nomatch q) fun _ _ q => nomatch q
section
variable {K : PySem.W.Frag} {d : Dc} {Y : Addr → Prop} {H : Hp} {e : ES} {op ov : Bool} {rows : List (Outcome × Rat)} {dx : Addr} {ch : V} {ps rs : List V}
theorem ExA.updN (h : ExA K d Y H e op ov rows dx ch ps rs) {a : Addr} {φ : Heap → Prop} (ha : H a = some (.ext φ)) (hx : ¬ d.X a) {u : HO} : ExA K d Y (L2.upd H a u) e op ov rows dx ch ps rs := by
  have ht : Ts H (L2.upd H a u) := ts_ext ha
  have n1 : d.p ≠ a := fun z => hx (.inl z.symm)
  have n2 : d.l ≠ a := fun z => hx (.inr (.inl z.symm))
  have n3 : d.rw ≠ a := fun z => hx (.inr (.inr z.symm))
  refine ⟨by rw [upd_ne n1]; exact h.ins, h.fr.ts ht, by rw [upd_ne n2]; exact h.lst, L2.Paired.mapP h.path fun v x ⟨t, wl, q1, q2, q3, q4⟩ => ⟨t, wl, q1, ht.tup _ _ q2, ?_, q4⟩, by rw [upd_ne n3]; exact h.rws, h.rowl.ts ht, h.ne, h.xy, fun b hb => ?_⟩
  · rw [upd_ne (ne_of q3 ha fun z => nomatch z)]
    exact q3
  · by_cases z : b = a
    · rw [z, upd_same]
      exact fun q => nomatch q
    · rw [upd_ne z]
      exact h.yd b hb
theorem ExAt.updN (h : ExAt K d Y H e op ov rows) {a : Addr} {φ : Heap → Prop} (ha : H a = some (.ext φ)) (hx : ¬ d.X a) {u : HO} : ExAt K d Y (L2.upd H a u) e op ov rows := let ⟨x, b, c, f, q⟩ := h; ⟨x, b, c, f, q.updN ha hx⟩
end
theorem pe_fldK {X : Cx} {e : Expr} {f : Str} {pos : Pos} {ta : TE} (K : PySem.W.Frag) (he : PE X e ta) (hb : attributeBase e f X.env (eval e X.env) = eval e X.env := by rfl) (h : X.K = K := by rfl) : PE X (.Attribute e f pos) (tFld K ta f) := by
  subst h
  exact pe_fld he hb
def tOr2 (t1 t2 : TE) : TE := fun σ H Q => t1 σ H Q ∨ t2 σ H Q
theorem pe_two {X : Cx} {a : Expr} {t1 t2 : TE} (h1 : PE X a t1) (h2 : PE X a t2) : PE X a (tOr2 t1 t2) := pe_or2 h1 h2
theorem pair_set {α β : Type} {F : α → β → Prop} : ∀ {xs : List α} {ys : List β} {i : Nat} {x : α} {y : β}, Paired F xs ys → F x y → Paired F (xs.set i x) (ys.set i y)
  | _, _, _, _, _, .nil, _ => .nil
  | _, _, 0, _, _, .cons _ t, h => .cons h t
  | _, _, _ + 1, _, _, .cons r t, h => .cons r (pair_set t h)
theorem Kq.upd {d : Dc} {sd : Addr} {H : Hp} {φ : Heap → Prop} {u : HO} (h : H sd = some (.ext φ)) : Kq d sd H (L2.upd H sd u) := ⟨fun b o e _ n => by rw [upd_ne n]; exact e, ts_ext h⟩
theorem Kn.upd {N : Addr → Prop} {sd : Addr} {H : Hp} {φ : Heap → Prop} {u : HO} (h : H sd = some (.ext φ)) : Kn N sd H (L2.upd H sd u) := ⟨fun b o e _ n => by rw [upd_ne n]; exact e, ts_ext h⟩
section
variable {K : PySem.W.Frag} {P : Program} {w : World} {N : Addr → Prop} {H H' : Hp} {a dx p pdx D pl sd : Addr} {o : V} {ks gs : List Str} {rs : List Rule} {kvs : List (Key × V)} {ps : List Str} {vs : List V} {ss : List Smp}
/-- a sample is put at the i-th place -/
theorem StA.put (h : StA K P w N H a dx p pdx D pl sd o ks gs rs kvs ps vs ss) {i : Nat} (hi : i ≤ gs.length) {v : V} {s : Smp} (hv : SmV K N H v s) :
    StA K P w N (L2.upd H sd (dN P w sd (putK ((pks gs).zip vs) (pk gs i) v))) a dx p pdx D pl sd o ks gs rs kvs ps (vs.set i v) (ss.set i s) := by
  obtain ⟨n1, n2, n3, n4⟩ := h.ne_sd
  have k : Kn N sd H (L2.upd H sd (dN P w sd (putK ((pks gs).zip vs) (pk gs i) v))) := Kn.upd h.dic
  refine ⟨by rw [upd_ne n1]; exact h.ins, ⟨by rw [upd_ne n2]; exact h.plan.ins, h.plan.ru.at k.ts (by rw [upd_ne n3]; exact h.plan.ru.dict)⟩, by rw [upd_ne n4]; exact h.prt, ?_, L2.Paired.mapP (pair_set h.sms hv) fun _ _ q => q.ne_sd h.dic k, by rw [List.length_set]; exact h.len, h.plen, h.nx⟩
  rw [upd_same, zip_put (pks_nodup h.plan.ru.ok.nodup) (pks_at hi) h.vlen]
theorem StA.get (h : StA K P w N H a dx p pdx D pl sd o ks gs rs kvs ps vs ss) {i : Nat} {s : Smp} (hs : ss[i]? = some s) : i ≤ gs.length ∧ ∃ v, vs[i]? = some v ∧ valV ((pks gs).zip vs) (pk gs i) = some v ∧ SmV K N H v s := by
  have hi : i ≤ gs.length := by
    have := (List.getElem?_eq_some_iff.mp hs).1
    have := h.len
    omega
  obtain ⟨v, hv, q⟩ := at_sq (K := K) (H := H) h.sms hs
  exact ⟨hi, v, hv, by rw [zip_val (pks_nodup h.plan.ru.ok.nodup) (pks_at hi) h.vlen]; exact hv, q⟩
end
/-- the keys that a store holds at one place -/
theorem atPlace_app (gs : List Str) (A B : List Itm) (i : Nat) : atPlace gs (A ++ B) i = atPlace gs A i ++ atPlace gs B i := List.filter_append ..
theorem keys_at {gs : List Str} {A B : List Itm} {i : Nat} {o o' : List Itm} (hn : ((A ++ B).map (·.key)).Nodup) (h : Subl o (atPlace gs A i)) (h' : Subl o' (atPlace gs B i)) : ((o ++ o').map (·.key)).Nodup := by
  refine (h.app h').keys ?_
  rw [← atPlace_app]
  exact hn.sublist ((List.filter_sublist ..).map _)
theorem len_at (gs : List Str) (A : List Itm) (i : Nat) : (atPlace gs A i).length ≤ A.length := List.length_filter_le _ _
theorem sm_cls {K : PySem.W.Frag} {mg : Str → Option Value} (T : Tx K mg) (un : Bool) : Cls K (smC K un) := by cases un; exact T.c_Weighted; exact T.c_Uniform
theorem sm_nk {K : PySem.W.Frag} {mg : Str → Option Value} (T : Tx K mg) (un : Bool) : NoAttr K (smC K un) "kept" := by cases un; exact T.n_Weighted_kept; exact T.n_Uniform_kept
def spStSample (K : PySem.W.Frag) (P : Program) (w : World) : Sp := fun vs H Q _ => ∃ (N : Addr → Prop) (a dx p pdx D pl sd : Addr) (o : V) (ks gs : List Str) (rs : List Rule) (kvs : List (Key × V)) (ps : List Str) (us : List V) (ss : List Smp) (i : Nat) (v : V), vs = [.ref a, kO (pk gs i)] ∧
  StA K P w N H a dx p pdx D pl sd o ks gs rs kvs ps us ss ∧ i ≤ gs.length ∧ us[i]? = some v ∧ Q v H
def ViewV (K : PySem.W.Frag) (H : Hp) (v : V) (s : Smp) : Prop := ∃ x t, v = .ref x ∧ SqT K H x [.int s.size, .int s.tot, .ref t] ∧ SqT K H t (s.kept.map itR)
theorem ViewV.ts {K : PySem.W.Frag} {H H' : Hp} {v : V} {s : Smp} (h : ViewV K H v s) (e : Ts H H') : ViewV K H' v s := let ⟨x, t, a, b, c⟩ := h; ⟨x, t, a, e.seqT b, e.seqT c⟩
def spStView (K : PySem.W.Frag) (P : Program) (w : World) : Sp := fun vs H Q _ => ∃ (N : Addr → Prop) (a dx p pdx D pl sd : Addr) (o : V) (ks gs : List Str) (rs : List Rule) (kvs : List (Key × V)) (ps : List Str) (us : List V) (ss : List Smp), vs = [.ref a] ∧
  StA K P w N H a dx p pdx D pl sd o ks gs rs kvs ps us ss ∧ ∀ (H' : Hp) (x t : Addr) (y : V) (zs : List V), Same H H' → SqT K H' x [y, .ref t] → SqT K H' t zs → Paired (ViewV K H') zs ss → Q (.ref x) H'
def spPut (K : PySem.W.Frag) (P : Program) (w : World) : Sp := fun vs H Q _ => ∃ (d : Dc) (Y : Addr → Prop) (a dx p pdx D pl sd : Addr) (o : V) (ks gs : List Str) (rs : List Rule) (kvs : List (Key × V)) (ps : List Str) (us : List V) (ss : List Smp) (x : Itm) (A : List Itm) (e : ES) (rows : List (Outcome × Rat)),
  vs = [.ref a, itR x, .ref d.p] ∧ StA K P w Y H a dx p pdx D pl sd o ks gs rs kvs ps us ss ∧ ItAt K H x ∧ ItOk x ∧ StOk gs rs A ss ∧ (∀ y ∈ A, ItOk y) ∧ A.length ≤ 3 ∧ ((A ++ [x]).map (·.key)).Nodup ∧ ExAt K d Y H e true false rows ∧ Fit (putT srtI gs rs ss x) e ∧
  ∀ (H' : Hp) (us' : List V), Kq d sd H H' → StA K P w Y H' a dx p pdx D pl sd o ks gs rs kvs ps us' (run (putT srtI gs rs ss x) e).1 → ExAt K d Y H' (run (putT srtI gs rs ss x) e).2 true false rows → Q .non H'
section
variable {P : Program} {w : World} {K : PySem.W.Frag} {mg : Str → Option Value} {base : Heap}
theorem ok_store_sample (T : Tx K mg) : CalM P w K mg base 1 (CS K) "sample" ["self", "place"] (spStSample K P w) := by
  obtain ⟨fd, F⟩ := T.d_Store_sample
  refine ⟨T.c_Store, _, fd, T.m_Store_sample, F.binds (ps := ["self", "place"]) fun _ _ _ _ _ _ us hl => match us, hl with | [_, _], _ => rfl, F.ok sc_Store_sample (fun vs H Q E h => ?_) (fun cdv A outer s H vs Q E hr h => ?_)⟩
  · obtain ⟨d, a, dx, p, pdx, D, pl, sd, o, ks, gs, rs, kvs, ps, us, ss, i, v, rfl, _⟩ := h
    rfl
  · obtain ⟨d, a, dx, p, pdx, D, pl, sd, o, ks, gs, rs, kvs, ps, us, ss, i, v, rfl, S, hi, hv, k⟩ := h
    have cl := T.c_Store
    refine ⟨_, pss_one (ps_ret (pe_ix (ix_dN P w) (pe_fld (pv 0) rfl) (pv 1) fun _ _ => rfl)), ?_⟩
    exact ⟨_, rfl, a, _, dx, _, _, rfl, S.ins, cl, T.n_Store_samples, st_samples _ _ _, _, rfl, sd, _, pk gs i, v, rfl, rfl, S.dic, by rw [zip_val (pks_nodup S.plan.ru.ok.nodup) (pks_at hi) S.vlen]; exact hv, k⟩
theorem ok_store_view (T : Tx K mg) : CalM P w K mg base 2 (CS K) "view" ["self"] (spStView K P w) := by
  obtain ⟨fd, F⟩ := T.d_Store_view
  refine ⟨T.c_Store, _, fd, T.m_Store_view, F.binds (ps := ["self"]) fun _ _ _ _ _ _ us hl => match us, hl with | [_], _ => rfl, F.ok sc_Store_view (fun vs H Q E h => ?_) (fun cdv A outer s H vs Q E hr h => ?_)⟩
  · obtain ⟨d, a, dx, p, pdx, D, pl, sd, o, ks, gs, rs, kvs, ps, us, ss, rfl, _⟩ := h
    rfl
  · obtain ⟨d, a, dx, p, pdx, D, pl, sd, o, ks, gs, rs, kvs, ps, us, ss, rfl, S, k⟩ := h
    have cl := T.c_Store
    have nd := sc_Store_view.nd
    refine ⟨_, pss_one (ps_ret (pe_tup (pa_cons (pe_callTy call_tuple_of (by rfl) T.f_tuple (by decide +kernel) (pa_cons (pe_fld (pv 0) rfl) pa_nil)) (pa_cons (pe_callTy call_tuple_of (by rfl) T.f_tuple (by decide +kernel) (pa_cons
      (pe_lc (own := [("place", 1)]) (g := gName 1) (tt := tYes) rfl nd (pi_list (pe_m0 (pe_fld (pv 0) rfl) (ok_places T) hr)) (blkOk_by (N := ["self", "place"]) (sc := defScope s_Store_view) (by decide +kernel))
        (fun _ _ _ _ _ => pg_name (i := 1) nd rfl (Or.inl rfl)) (fun _ _ _ _ _ => pts_nil)
        (fun _ _ _ _ _ => pe_two (pe_m0 (pe_ix (ix_dN P w) (pe_fldK K (pv 0)) (pv 1) fun _ _ => rfl) (ok_Uniform_view T) hr) (pe_m0 (pe_ix (ix_dN P w) (pe_fldK K (pv 0)) (pv 1) fun _ _ => rfl) (ok_Weighted_view T) hr))) pa_nil)) pa_nil)))), ?_⟩
    refine ⟨_, rfl, a, _, dx, _, _, rfl, S.ins, cl, T.n_Store_parts, st_parts _ _ _, pl, _, rfl, .inl ⟨SqL.of S.prt, fun t1 ht1 => ?_⟩⟩
    have s1 := same_new (o := .tup (ps.map V.str)) ht1
    have S1 := S.same s1
    refine ⟨_, rfl, a, _, dx, _, _, rfl, S1.ins, cl, T.n_Store_plan, st_plan _ _ _, p, pdx, _, rfl, S1.plan.ins, pl_no _ _ _ (by decide +kernel), p, pdx, D, o, ks, gs, rs, kvs, rfl, S1.plan, fun H2 lp s2 hlp hlpl => ?_⟩
    refine ⟨lp, rfl, ⟨_, SqL.of hlpl⟩, fun L hL => lc_it walk_list (fun i H' => Same H2 H' ∧ ∃ zs, H' L = some (.lst zs) ∧ zs.length = i ∧ Paired (ViewV K H') zs (ss.take i)) ⟨same_new hL, [], upd_same, rfl, .nil⟩ (fun i H' _ h' => h'.1.seq (SqL.of hlpl)) ?_ ?_⟩
    · rintro i v H3 H' hi ⟨s3, zs, hLl, hzl, hpr⟩ ⟨rfl, hv⟩
      obtain ⟨hig, rfl⟩ := plcs_at hv
      rw [plcs_len] at hi
      obtain ⟨s0, hs⟩ : ∃ s0, ss[i]? = some s0 := ⟨_, List.getElem?_eq_getElem (by rw [S.len]; omega)⟩
      have S3 := S.same ((s1.trans s2).trans s3)
      obtain ⟨_, v0, hv0, hvv, b, c, bx, rfl, A0, n1, n2⟩ := S3.get hs
      have fin : ∀ (v t : Addr) (H4 : Hp), Same H' H4 → SqT K H4 v [.int s0.size, .int s0.tot, .ref t] → SqT K H4 t (s0.kept.map itR) → ∃ acc, H4 L = some (.lst acc) ∧ acc.length < sizeLine ∧ (Same H2 (upd H4 L (.lst (acc ++ [.ref v]))) ∧ ∃ zs, upd H4 L (.lst (acc ++ [.ref v])) L = some (.lst zs) ∧ zs.length = i + 1 ∧ Paired (ViewV K (upd H4 L (.lst (acc ++ [.ref v])))) zs (ss.take (i + 1))) := fun v t H4 s4 h1 h2 => by
        have t5 : Ts H4 (upd H4 L (.lst (zs ++ [.ref v]))) := ts_lst (s4 _ _ hLl)
        refine ⟨zs, s4 _ _ hLl, by rw [hzl, sizeLine_eq]; have := S.plan.ru.rok.le3; have := S.plan.ru.rok.len; omega, fun g ob eg => ?_, _, upd_same, by rw [List.length_append, hzl]; rfl, ?_⟩
        · rw [upd_ne (ne_of_none eg hL)]
          exact s4 _ _ (s3 _ _ eg)
        · rw [List.take_add_one, hs, Option.toList_some]
          exact pair_snoc (L2.Paired.mapP hpr fun _ _ q => q.ts ((Ts.of_same s4).trans t5)) ⟨v, t, rfl, t5.seqT h1, t5.seqT h2⟩
      refine ⟨rfl, ?_⟩
      cases hu : s0.un with
      | true =>
        have A1 := A0.ins
        rw [hu] at A1
        exact .inl ⟨_, rfl, a, _, dx, _, _, rfl, S3.ins, cl, T.n_Store_samples, st_samples _ _ _, _, rfl, sd, _, pk gs i, _, rfl, rfl, S3.dic, hvv, b, bx, _, rfl, A1, sm_no _ _ _ _ _ (by decide +kernel), b, c, bx, s0, rfl, A0, hu, fin⟩
      | false =>
        have A1 := A0.ins
        rw [hu] at A1
        exact .inr ⟨_, rfl, a, _, dx, _, _, rfl, S3.ins, cl, T.n_Store_samples, st_samples _ _ _, _, rfl, sd, _, pk gs i, _, rfl, rfl, S3.dic, hvv, b, bx, _, rfl, A1, sm_no _ _ _ _ _ (by decide +kernel), b, c, bx, s0, rfl, A0, hu, fin⟩
    · rintro H3 ⟨s3, zs, hLl, hzl, hpr⟩
      rw [plcs_len] at hzl hpr
      rw [List.take_of_length_le (by rw [S.len]; omega)] at hpr
      refine ⟨L, zs, rfl, .inl ⟨SqL.of hLl, fun t ht => ⟨(by show 2 ≤ sizeLine; decide), fun x hx => ?_⟩⟩⟩
      have s4 := same_new (o := .tup zs) ht
      have s5 := same_new (o := .tup [.ref t1, .ref t]) hx
      exact k _ x t _ zs ((((s1.trans s2).trans s3).trans s4).trans s5) (SqT.of upd_same) (Same.seqT s5 (SqT.of upd_same)) (L2.Paired.mapP hpr fun _ _ q => q.ts (.of_same (s4.trans s5)))
end
end Sam

set_option maxHeartbeats 4000000
set_option pp.maxSteps 600
namespace Sam
open PySem PySem.Spec PyProof.Rows L2
theorem inV_keys {k : Str} : ∀ {xs : List Str}, k ∉ xs → inV (.str k) (xs.map V.str) = false := fun {xs} h => by
  unfold inV
  rw [List.any_eq_false]
  intro v hv e
  obtain ⟨x, hx, rfl⟩ := List.mem_map.mp hv
  have e2 : (x == k) = true := e
  exact h (by rw [← beq_iff_eq.mp e2]; exact hx)
theorem flat_keys (xs : List Str) : (xs.map V.str).all flatV = true := by
  rw [List.all_eq_true]
  intro v hv
  obtain ⟨x, _, rfl⟩ := List.mem_map.mp hv
  rfl
section
variable {P : Program} {w : World} {K : PySem.W.Frag} {mg : Str → Option Value} {base : Heap}
theorem ok_store_put (T : Tx K mg) : CalM P w K mg base 5 (CS K) "put" ["self", "item", "dice"] (spPut K P w) := by
  obtain ⟨fd, F⟩ := T.d_Store_put
  refine ⟨T.c_Store, _, fd, T.m_Store_put, F.binds (ps := ["self", "item", "dice"]) fun _ _ _ _ _ _ us hl => match us, hl with | [_, _, _], _ => rfl, F.ok sc_Store_put (fun vs H Q E h => ?_) (fun cdv A outer s H vs Q E hr h => ?_)⟩
  · obtain ⟨d, Y, a, dx, p, pdx, D, pl, sd, o, ks, gs, rs, kvs, ps, us, ss, x, A, e, rows, rfl, _⟩ := h
    rfl
  · obtain ⟨d, Y, a, dx, p, pdx, D, pl, sd, o, ks, gs, rs, kvs, ps, us, ss, x, A, e, rows, rfl, S, hx, ox, oA, iA, hl, hn, X, hF, k⟩ := h
    have cl := T.c_Store
    have nd := sc_Store_put.nd
    have cp := T.c_Plan
    obtain ⟨hs, ok⟩ := smp_get S.plan.ru.rok oA x.grp
    have hrl := rule_get S.plan.ru.rok x.grp
    refine ⟨_, pss_cons (ps_set (i := 3) nd rfl (.inl rfl) (pe_m (pe_fld (pv 0) rfl) (ok_place_of T) hr (pa_cons (pe_ix ix_tup (pv 1) pe_int fun _ _ => rfl) pa_nil)))
      (pss_cons (ps_set (i := 4) nd rfl (.inl rfl) (pe_ix (ix_dN P w) (pe_fld (pv 0) rfl) (pv 3) fun _ _ => rfl))
      (pss_cons (ps_if (pt_cmpR op_in_seq (pe_ix ix_tup (pv 1) pe_int fun _ _ => rfl)
          (pe_lc (own := [("kept", 5)]) (g := gName 5) (tt := tYes) rfl nd (pi_list (pe_fld (pv 4) rfl)) (blkOk_by (N := ["self", "item", "dice", "place", "sample", "kept"]) (sc := defScope s_Store_put) (by decide +kernel))
            (fun _ _ _ _ _ => pg_name (i := 5) nd rfl (Or.inl rfl)) (fun _ _ _ _ _ => pts_nil) (fun _ _ _ _ _ => pe_ix (ixTK K rfl) (pv 5) pe_int fun _ _ => rfl)) (by with_unfolding_all rfl)) pss_never pss_nil)
      (pss_one (ps_asg (pe_two (pe_m (pv 4) (ok_Uniform_merge T) hr (pa_cons (pe_f (ok_single_sample T) hr rfl (pa_cons (pe_m (pe_fld (pv 0) rfl) (ok_rule T) hr (pa_cons (pv 3) pa_nil)) (pa_cons (pv 1) pa_nil))) (pa_cons (pv 2) pa_nil)))
          (pe_m (pv 4) (ok_Weighted_merge T) hr (pa_cons (pe_f (ok_single_sample T) hr rfl (pa_cons (pe_m (pe_fld (pv 0) rfl) (ok_rule T) hr (pa_cons (pv 3) pa_nil)) (pa_cons (pv 1) pa_nil))) (pa_cons (pv 2) pa_nil))))
        (pg_sub (pe_fld (pv 0) rfl) (pv 3) set_dN))))), ?_⟩
    -- place, sample
    refine ⟨_, rfl, a, _, dx, _, _, rfl, S.ins, cl, T.n_Store_plan, st_plan _ _ _, p, pdx, _, rfl, S.plan.ins, pl_no _ _ _ (by decide +kernel), _, rfl, x.a, _, 1, _, rfl, rfl, hx, atI1, p, pdx, D, o, ks, gs, rs, kvs, x.grp, rfl, S.plan, fun H1 s1 => ?_⟩
    have S1 := S.same s1
    have hi := pix_le gs x.grp
    generalize hs0 : smpAt ss (pix gs x.grp) = s0 at hs ok
    obtain ⟨_, v0, hv0, hvv, b, c, bx, rfl, A0, n1, n2⟩ := S1.get hs
    refine ⟨_, rfl, a, _, dx, _, _, rfl, S1.ins, cl, T.n_Store_samples, st_samples _ _ _, _, rfl, sd, _, pk gs (pix gs x.grp), _, rfl, rfl, S1.dic, hvv, ?_⟩
    -- the key is new
    have hkn : x.key ∉ s0.kept.map (·.key) := fun z => by
      rw [List.map_append, List.nodup_append] at hn
      obtain ⟨y, hy, ey⟩ := List.mem_map.mp z
      have hyA : y ∈ A := (List.mem_filter.mp (ok.sub.mem hy)).1
      exact hn.2.2 _ (List.mem_map.mpr ⟨y, hyA, rfl⟩) x.key (by simp) ey
    have hkl : s0.kept.length ≤ 100 := Nat.le_trans ok.sub.len (Nat.le_trans (len_at gs A _) (Nat.le_trans hl (by decide)))
    refine ⟨_, rfl, x.a, _, 0, _, rfl, rfl, hx.ts (.of_same s1), atI0, _, rfl, b, _, bx, _, _, rfl, A0.ins, sm_cls T _, sm_nk T _, sm_kept _ _ _ _, c, rfl, ⟨_, SqL.of A0.lst⟩, fun L hL => lc_list (K := K) (a := c) (xs := s0.kept.map itR) (fun i H' => Same H1 H' ∧ H' L = some (.lst (((s0.kept.map (·.key)).take i).map V.str))) ⟨same_new hL, upd_same⟩ (fun i H' _ h' => h'.1.seq (SqL.of A0.lst)) ?_ ?_⟩
    · rintro i v H' hi2 ⟨s2, hLl⟩
      obtain ⟨y, hy, rfl⟩ := map_at hi2
      have hil := (List.getElem?_eq_some_iff.mp hy).1
      refine ⟨rfl, ⟨_, rfl, y.a, _, 0, _, rfl, rfl, (A0.its y (List.mem_of_getElem? hy)).ts (.of_same s2), atI0, _, hLl, ?_, fun g ob eg => ?_, ?_⟩⟩
      · rw [List.length_map, List.length_take, List.length_map]
        exact len_lt (Nat.le_trans (Nat.min_le_right _ _) hkl)
      · rw [upd_ne (ne_of_none eg hL)]
        exact s2 _ _ eg
      · rw [upd_same, List.take_add_one, List.getElem?_map, hy, List.map_append]
        rfl
    · rintro H2 ⟨s2, hLl⟩
      rw [List.length_map, List.take_of_length_le (by rw [List.length_map]; exact Nat.le_refl _)] at hLl
      refine ⟨L, _, rfl, .inl (SqL.of hLl), rfl, flat_keys _, ?_⟩
      rw [if_neg (by decide), inV_keys hkn]
      refine ⟨_, rfl, ?_⟩
      refine iteF ?_
      -- the merge
      have s12 := s1.trans s2
      have S2 := S.same s12
      have A2 := A0.same s2
      have hx2 := hx.ts (.of_same s12)
      have hF1 : Fit (mergeT srtI s0 (single (ruleAt rs (pix gs x.grp)) x)) e := by
        have z := ((fit_bind _ _ _).mp hF).1
        rw [hs0] at z
        exact z
      have hrun : run (putT srtI gs rs ss x) e = (ss.set (pix gs x.grp) (run (mergeT srtI s0 (single (ruleAt rs (pix gs x.grp)) x)) e).1, (run (mergeT srtI s0 (single (ruleAt rs (pix gs x.grp)) x)) e).2) := by
        rw [← hs0]
        exact run_bind _ _ _
      rw [hrun] at k
      have hsu : s0.un = (ruleAt rs (pix gs x.grp)).1 := ok.un
      have hmem : ruleAt rs (pix gs x.grp) ∈ rs := ruleAt_mem (by have := S.plan.ru.rok.len; omega)
      have hr1 := S.plan.ru.rok.lo _ hmem
      have hr2 := S.plan.ru.rok.hi _ hmem
      have tail : ∀ (H3 : Hp), Same H2 H3 → ∀ (v q z : Addr) (H4 : Hp), H3 v = none → H3 q = none → Kp d H3 H4 → SmA K H4 v q z (run (mergeT srtI s0 (single (ruleAt rs (pix gs x.grp)) x)) e).1 → ExAt K d Y H4 (run (mergeT srtI s0 (single (ruleAt rs (pix gs x.grp)) x)) e).2 true false rows →
          gSub (tFld K (tVar 0) "samples") (tVar 3) (rSetN P w) (.ref v) [some (.ref a), some (itR x), some (.ref d.p), some (kO (pk gs (pix gs x.grp))), some (.ref b), none] H4 fun _ H5 => Q .non H5 := fun H3 s3 v q z H4 hv hq k4 sA X4 => by
        have s13 := s12.trans s3
        have S4 := (S.same s13).kp k4 X.xy
        refine ⟨_, rfl, a, _, dx, _, _, rfl, S4.ins, cl, T.n_Store_samples, st_samples _ _ _, _, rfl, sd, _, pk gs (pix gs x.grp), rfl, rfl, S4.dic, ?_, ?_⟩
        · rw [List.length_zip, pks_len, sizeLine_eq]
          have := S.plan.ru.rok.le3
          have := S.plan.ru.rok.len
          omega
        · have hvX : ¬ Y v := X.newY (s13.free hv)
          have hqX : ¬ Y q := X.newY (s13.free hq)
          have S5 := S4.put hi (v := .ref v) (s := (run (mergeT srtI s0 (single (ruleAt rs (pix gs x.grp)) x)) e).1) ⟨v, q, z, rfl, sA, hvX, hqX⟩
          exact k _ _ (((Kp.of_same s13).trans k4).q.trans (Kq.upd S4.dic)) S5 (X4.updN S4.dic fun z => S4.nx.2.2.2.2 (X.xy _ z))
      have goU : s0.un = true → tMeth (smC K true) "merge" (spSmMerge K true) [] E0 (tVar 4) (tCons (tCall (spSingleS K) [] E0 (tCons (tMeth (CP K) "rule" (spRule K) [] E0 (tFld K (tVar 0) "plan") (tCons (tVar 3) tNil)) (tCons (tVar 1) tNil))) (tCons (tVar 2) tNil)) [some (.ref a), some (itR x), some (.ref d.p), some (kO (pk gs (pix gs x.grp))), some (.ref b), none] H2 fun x1 H4 => gSub (tFld K (tVar 0) "samples") (tVar 3) (rSetN P w) x1 [some (.ref a), some (itR x), some (.ref d.p), some (kO (pk gs (pix gs x.grp))), some (.ref b), none] H4 fun _ H5 => Q .non H5 := fun hu => by
        have A3 := A2.ins
        rw [hu] at A3
        refine ⟨_, rfl, b, bx, _, rfl, A3, sm_no _ _ _ _ _ (by decide +kernel), _, rfl, a, _, dx, _, _, rfl, S2.ins, cl, T.n_Store_plan, st_plan _ _ _, p, pdx, _, rfl, S2.plan.ins, pl_no _ _ _ (by decide +kernel), _, rfl, p, pdx, D, o, ks, gs, rs, kvs, pix gs x.grp, rfl, hi, S2.plan, fun v H3 s3 hv => ?_⟩
        refine ⟨_, rfl, v, ruleAt rs (pix gs x.grp), x, rfl, hv, hr1, Nat.le_trans hr2 (by decide), hx2.ts (.of_same s3), fun b2 c2 bx2 H4 hb2 hc2 s4 sA => ?_⟩
        have s34 := s3.trans s4
        refine ⟨_, rfl, d, Y, b, c, bx, b2, c2, bx2, ruleAt rs (pix gs x.grp), atPlace gs A (pix gs x.grp), [x], s0, single (ruleAt rs (pix gs x.grp)) x, e, rows, rfl, A2.same s34, sA, by rw [← hsu]; exact hu, hr2, ok, sok_single _ hr1 x, atPlace_ok iA _, (fun y hy => by rw [List.mem_singleton.mp hy]; exact ox), ?_, ?_, ⟨fun z => n1 (X.xy _ z), fun z => n2 (X.xy _ z)⟩, ⟨X.newX (s12.free (s3.free hb2)), X.newX (s12.free (s3.free hc2))⟩, X.same (s12.trans s34), hF1, tail H4 s34⟩
        · have := len_at gs A (pix gs x.grp)
          show _ + 1 ≤ 4
          omega
        · show ((s0.kept ++ [x]).map _).Nodup
          rw [List.map_append, List.nodup_append]
          refine ⟨ok.sub.keys (((List.nodup_append.mp (by rw [← List.map_append]; exact hn)).1).sublist ((List.filter_sublist ..).map _)), by simp, fun k1 h1 k2 h2 e2 => hkn ?_⟩
          rw [List.mem_singleton.mp (show k2 ∈ [x.key] from h2)] at e2
          rw [← e2]
          exact h1
      have goW : s0.un = false → tMeth (smC K false) "merge" (spSmMerge K false) [] E0 (tVar 4) (tCons (tCall (spSingleS K) [] E0 (tCons (tMeth (CP K) "rule" (spRule K) [] E0 (tFld K (tVar 0) "plan") (tCons (tVar 3) tNil)) (tCons (tVar 1) tNil))) (tCons (tVar 2) tNil)) [some (.ref a), some (itR x), some (.ref d.p), some (kO (pk gs (pix gs x.grp))), some (.ref b), none] H2 fun x1 H4 => gSub (tFld K (tVar 0) "samples") (tVar 3) (rSetN P w) x1 [some (.ref a), some (itR x), some (.ref d.p), some (kO (pk gs (pix gs x.grp))), some (.ref b), none] H4 fun _ H5 => Q .non H5 := fun hu => by
        have A3 := A2.ins
        rw [hu] at A3
        refine ⟨_, rfl, b, bx, _, rfl, A3, sm_no _ _ _ _ _ (by decide +kernel), _, rfl, a, _, dx, _, _, rfl, S2.ins, cl, T.n_Store_plan, st_plan _ _ _, p, pdx, _, rfl, S2.plan.ins, pl_no _ _ _ (by decide +kernel), _, rfl, p, pdx, D, o, ks, gs, rs, kvs, pix gs x.grp, rfl, hi, S2.plan, fun v H3 s3 hv => ?_⟩
        refine ⟨_, rfl, v, ruleAt rs (pix gs x.grp), x, rfl, hv, hr1, Nat.le_trans hr2 (by decide), hx2.ts (.of_same s3), fun b2 c2 bx2 H4 hb2 hc2 s4 sA => ?_⟩
        have s34 := s3.trans s4
        refine ⟨_, rfl, d, Y, b, c, bx, b2, c2, bx2, ruleAt rs (pix gs x.grp), atPlace gs A (pix gs x.grp), [x], s0, single (ruleAt rs (pix gs x.grp)) x, e, rows, rfl, A2.same s34, sA, by rw [← hsu]; exact hu, hr2, ok, sok_single _ hr1 x, atPlace_ok iA _, (fun y hy => by rw [List.mem_singleton.mp hy]; exact ox), ?_, ?_, ⟨fun z => n1 (X.xy _ z), fun z => n2 (X.xy _ z)⟩, ⟨X.newX (s12.free (s3.free hb2)), X.newX (s12.free (s3.free hc2))⟩, X.same (s12.trans s34), hF1, tail H4 s34⟩
        · have := len_at gs A (pix gs x.grp)
          show _ + 1 ≤ 4
          omega
        · show ((s0.kept ++ [x]).map _).Nodup
          rw [List.map_append, List.nodup_append]
          refine ⟨ok.sub.keys (((List.nodup_append.mp (by rw [← List.map_append]; exact hn)).1).sublist ((List.filter_sublist ..).map _)), by simp, fun k1 h1 k2 h2 e2 => hkn ?_⟩
          rw [List.mem_singleton.mp (show k2 ∈ [x.key] from h2)] at e2
          rw [← e2]
          exact h1
      cases hu : s0.un with
      | true => exact .inl (goU hu)
      | false => exact .inr (goW hu)
end
end Sam

set_option maxHeartbeats 4000000
set_option pp.maxSteps 600
namespace Sam
open PySem PySem.Spec PyProof.Rows L2
theorem sok_at {gs : List Str} {rs : List Rule} {A : List Itm} {ss : List Smp} (R : RsOk gs rs) (h : StOk gs rs A ss) {i : Nat} (hi : i ≤ gs.length) : ∃ s, ss[i]? = some s ∧ SOk (ruleAt rs i) (atPlace gs A i) s := by
  have hl := SOks.len h
  have hir : i < rs.length := by rw [R.len]; omega
  have hs : ss[i]? = some (ss[i]'(by omega)) := List.getElem?_eq_getElem (by omega)
  have hr : rs[i]? = some (ruleAt rs i) := by
    unfold ruleAt
    rw [List.getD_eq_getElem?_getD, List.getElem?_eq_getElem hir]
    rfl
  exact ⟨_, hs, SOks.get h hr (byPl_get hir A) hs⟩
theorem drop_at {α : Type} {l : List α} {i : Nat} {x : α} (h : l[i]? = some x) : l.drop i = x :: l.drop (i + 1) := by
  have hi := (List.getElem?_eq_some_iff.mp h).1
  rw [List.drop_eq_getElem_cons hi, (List.getElem?_eq_some_iff.mp h).2]
theorem inV_strs (k : Str) (xs : List Str) : inV (.str k) (xs.map V.str) = decide (k ∈ xs) := by
  by_cases h : k ∈ xs
  · rw [decide_eq_true h]
    unfold inV
    rw [List.any_eq_true]
    exact ⟨.str k, List.mem_map.mpr ⟨k, h, rfl⟩, by show (k == k) = true; exact beq_self_eq_true k⟩
  · rw [decide_eq_false h, inV_keys h]
def spMerged (K : PySem.W.Frag) (P : Program) (w : World) : Sp := fun vs H Q _ => ∃ (d : Dc) (Y : Addr → Prop) (a dx p pdx D pl sd b dx' p' pdx' D' pl' sd' : Addr) (o : V) (ks gs : List Str) (rs : List Rule) (kvs : List (Key × V)) (ps ps' : List Str) (us us' : List V) (ss ts : List Smp) (A B : List Itm) (e : ES) (rows : List (Outcome × Rat)),
  vs = [.ref a, .ref b, .ref d.p] ∧ StA K P w Y H a dx p pdx D pl sd o ks gs rs kvs ps us ss ∧ StA K P w Y H b dx' p' pdx' D' pl' sd' o ks gs rs kvs ps' us' ts ∧ (∀ x ∈ ps, x ∉ ps') ∧ ps.length + ps'.length ≤ 8 ∧ StOk gs rs A ss ∧ StOk gs rs B ts ∧ (∀ y ∈ A, ItOk y) ∧ (∀ y ∈ B, ItOk y) ∧ A.length + B.length ≤ 4 ∧ ((A ++ B).map (·.key)).Nodup ∧
  ExAt K d Y H e true false rows ∧ Fit (zipT srtI ss ts) e ∧
  ∀ (H' : Hp) (f fx q qx E2 pl2 sd2 : Addr) (ps2 : List Str) (us2 : List V), Kp d H H' → ps2.Perm (ps ++ ps') → StA K P w Y H' f fx q qx E2 pl2 sd2 o ks gs rs kvs ps2 us2 (run (zipT srtI ss ts) e).1 → ExAt K d Y H' (run (zipT srtI ss ts) e).2 true false rows → Q (.ref f) H'
section
variable {P : Program} {w : World} {K : PySem.W.Frag} {mg : Str → Option Value} {base : Heap}
theorem ok_store_merged (T : Tx K mg) : CalM P w K mg base 7 (CS K) "merged" ["self", "other", "dice"] (spMerged K P w) := by
  obtain ⟨fd, F⟩ := T.d_Store_merged
  refine ⟨T.c_Store, _, fd, T.m_Store_merged, F.binds (ps := ["self", "other", "dice"]) fun _ _ _ _ _ _ us hl => match us, hl with | [_, _, _], _ => rfl, F.ok sc_Store_merged (fun vs H Q E h => ?_) (fun cdv A outer s H vs Q E hr h => ?_)⟩
  · obtain ⟨d, Y, a, dx, p, pdx, D, pl, sd, b, dx', p', pdx', D', pl', sd', o, ks, gs, rs, kvs, ps, ps', us, us', ss, ts, A, B, e, rows, rfl, _⟩ := h
    rfl
  · obtain ⟨d, Y, a, dx, p, pdx, D, pl, sd, b, dx', p', pdx', D', pl', sd', o, ks, gs, rs, kvs, ps, ps', us, us', ss, ts, A, B, e, rows, rfl, S, S', hdj, hp8, oA, oB, iA, iB, hl, hn, X, hF, k⟩ := h
    have cl := T.c_Store
    have nd := sc_Store_merged.nd
    have cp := T.c_Plan
    have R := S.plan.ru.rok
    refine ⟨_, pss_cons (ps_if (pt_not (pt_val (pe_f (ok_same_plan T) hr rfl (pa_cons (pe_fld (pv 0) rfl) (pa_cons (pe_fld (pv 1) rfl) pa_nil))))) pss_never pss_nil)
      (pss_cons (ps_setLc (i := 3) (own := [("part", 8)]) (g := gName 8) rfl nd rfl rfl rfl (pi_list (pe_fld (pv 0) rfl)) (blkOk_by (N := ["self", "other", "dice", "common", "place", "keys", "both", "found", "part", "item"]) (sc := defScope s_Store_merged) (by decide +kernel))
        (fun _ _ _ _ _ => pg_name (i := 8) nd rfl (Or.inl rfl)) (fun _ _ _ _ _ => pts_one (pt_cmpR (op_inK K rfl) (pv 8) (pe_fldK K (pv 1)) (by with_unfolding_all rfl))) (fun _ _ _ _ _ => pv 8))
      (pss_cons (ps_if (pt_cmpR op_gt (pe_callB call_len_seq (by rfl) T.f_len PySem.boot_len (pa_cons (pv 3) pa_nil)) pe_int (nomark _)) pss_never pss_nil)
      (pss_cons (ps_for PassesOwn.never rfl (pi_list (pe_m0 (pe_fld (pv 0) rfl) (ok_places T) hr)) (pg_name (i := 4) nd rfl (.inl rfl))
        (pss_cons (ps_set (i := 5) nd rfl (.inr rfl) (pe_lc (own := [("item", 9)]) (g := gName 9) (tt := tYes) rfl nd (pi_list (pe_fld (pe_m (pv 1) (ok_store_sample T) hr (pa_cons (pv 4) pa_nil)) rfl)) (blkOk_by (N := ["self", "other", "dice", "common", "place", "keys", "both", "found", "part", "item"]) (sc := defScope s_Store_merged) (by decide +kernel))
          (fun _ _ _ _ _ => pg_name (i := 9) nd rfl (Or.inl rfl)) (fun _ _ _ _ _ => pts_nil) (fun _ _ _ _ _ => pe_ix (ixTK K rfl) (pv 9) pe_int fun _ _ => rfl)))
        (pss_cons (ps_set (i := 6) nd rfl (.inl rfl) (pe_callB cr_sortedS (by rfl) T.f_sorted (by decide +kernel) (pa_cons (pe_lc (own := [("item", 9)]) (g := gName 9) rfl nd (pi_list (pe_fld (pe_ix (ix_dN P w) (pe_fld (pv 0) rfl) (pv 4) fun _ _ => rfl) rfl)) (blkOk_by (N := ["self", "other", "dice", "common", "place", "keys", "both", "found", "part", "item"]) (sc := defScope s_Store_merged) (by decide +kernel))
          (fun _ _ _ _ _ => pg_name (i := 9) nd rfl (Or.inl rfl)) (fun _ _ _ _ _ => pts_one (pt_cmpR (op_inK K rfl) (pe_ix (ixTK K rfl) (pv 9) pe_int fun _ _ => rfl) (pv 5) (by with_unfolding_all rfl))) (fun _ _ _ _ _ => pe_ix (ixTK K rfl) (pv 9) pe_int fun _ _ => rfl)) pa_nil)))
        (pss_one (ps_if (pt_cmpR op_gt (pe_callB call_len_seq (by rfl) T.f_len PySem.boot_len (pa_cons (pv 6) pa_nil)) pe_int (nomark _)) pss_never pss_nil)))))
      (pss_cons (ps_set (i := 7) nd rfl (.inl rfl) (pe_mk' (ok_store_init T) hr rfl (pa_cons (pe_fld (pv 0) rfl) (pa_cons (pe_op op_cat (pe_fld (pv 0) rfl) (pe_fld (pv 1) rfl)) pa_nil))))
      (pss_cons (ps_for PassesOwn.never rfl (pi_list (pe_m0 (pe_fld (pv 0) rfl) (ok_places T) hr)) (pg_name (i := 4) nd rfl (.inl rfl))
        (pss_one (ps_asg (pe_two (pe_m (pe_ix (ix_dN P w) (pe_fld (pv 0) rfl) (pv 4) fun _ _ => rfl) (ok_Uniform_merge T) hr (pa_cons (pe_m (pv 1) (ok_store_sample T) hr (pa_cons (pv 4) pa_nil)) (pa_cons (pv 2) pa_nil)))
            (pe_m (pe_ix (ix_dN P w) (pe_fld (pv 0) rfl) (pv 4) fun _ _ => rfl) (ok_Weighted_merge T) hr (pa_cons (pe_m (pv 1) (ok_store_sample T) hr (pa_cons (pv 4) pa_nil)) (pa_cons (pv 2) pa_nil))))
          (pg_sub (pe_fld (pv 7) rfl) (pv 4) set_dN))))
      (pss_one (ps_ret (pv 7)))))))), ?_⟩
    -- the plans, the parts
    refine ⟨_, rfl, a, _, dx, _, _, rfl, S.ins, cl, T.n_Store_plan, st_plan _ _ _, _, rfl, b, _, dx', _, _, rfl, S'.ins, cl, T.n_Store_plan, st_plan _ _ _, p, pdx, D, p', pdx', D', o, ks, gs, rs, kvs, rfl, S.plan, S'.plan, fun H1 s1 => ?_⟩
    refine ⟨true, rfl, ?_⟩
    refine iteF ?_
    have S1 := S.same s1
    have S1' := S'.same s1
    refine ⟨_, rfl, a, _, dx, _, _, rfl, S1.ins, cl, T.n_Store_parts, st_parts _ _ _, pl, rfl, ⟨_, SqL.of S1.prt⟩, fun C hC => lc_it walk_list (fun i H' => Same H1 H' ∧ H' C = some (.lst [])) ⟨same_new hC, upd_same⟩ (fun i H' _ h' => h'.1.seq (SqL.of S1.prt)) ?_ ?_⟩
    · rintro i v H2 H' hi ⟨s2, hCl⟩ ⟨rfl, hv⟩
      obtain ⟨q, hq, rfl⟩ := map_at hv
      have S2' := S1'.same s2
      refine ⟨rfl, ⟨_, rfl, _, rfl, b, _, dx', _, _, rfl, S2'.ins, cl, T.n_Store_parts, st_parts _ _ _, pl', _, rfl, .inl (SqL.of S2'.prt), rfl, flat_keys _, ?_⟩⟩
      rw [if_neg (by decide), inV_strs, decide_eq_false (hdj q (List.mem_of_getElem? hq))]
      exact ⟨_, rfl, s2, hCl⟩
    rintro H2 ⟨s2, hCl⟩
    refine ⟨_, rfl, C, _, rfl, .inl (SqL.of hCl), _, _, rfl, rfl, _, rfl, ?_⟩
    refine iteF ?_
    have s12 := s1.trans s2
    have S2 := S.same s12
    -- the keys
    refine ⟨_, rfl, a, _, dx, _, _, rfl, S2.ins, cl, T.n_Store_plan, st_plan _ _ _, p, pdx, _, rfl, S2.plan.ins, pl_no _ _ _ (by decide +kernel), p, pdx, D, o, ks, gs, rs, kvs, rfl, S2.plan, fun H3 lp s3 hlp hlpl => ?_⟩
    have s13 := s12.trans s3
    refine ⟨lp, rfl, ⟨_, SqL.of hlpl⟩, for_it walk_list (fun i σ H' => ∃ o4 o5 o6 : Option V, σ = [some (.ref a), some (.ref b), some (.ref d.p), some (.ref C), o4, o5, o6, none, none, none] ∧ Same H3 H') ⟨none, none, none, rfl, Same.refl _⟩ (fun i σ H' _ ⟨_, _, _, _, h'⟩ => h'.seq (SqL.of hlpl)) ?_ ?_⟩
    · rintro i v σ H4 H' hi ⟨o4, o5, o6, rfl, s4⟩ ⟨rfl, hv⟩
      obtain ⟨hig, rfl⟩ := plcs_at hv
      have s14 := s13.trans s4
      have S4 := S.same s14
      have S4' := S'.same s14
      obtain ⟨s0, hs0, ok0⟩ := sok_at R oA hig
      obtain ⟨t0, ht0, ok1⟩ := sok_at R oB hig
      have hkn := keys_at hn ok0.sub ok1.sub
      obtain ⟨_, v0, hv0, hvv, b0, c0, bx0, rfl, A0, n1, n2⟩ := S4.get hs0
      obtain ⟨_, v1, hv1, hvv1, b1, c1, bx1, rfl, A1, m1, m2⟩ := S4'.get ht0
      have hl0 : s0.kept.length ≤ 100 := Nat.le_trans ok0.sub.len (Nat.le_trans (len_at gs A _) (by omega))
      have hl1 : t0.kept.length ≤ 100 := Nat.le_trans ok1.sub.len (Nat.le_trans (len_at gs B _) (by omega))
      refine ⟨_, rfl, b, dx', _, rfl, S4'.ins, st_no _ _ _ _ (by decide +kernel), _, rfl, Y, b, dx', p', pdx', D', pl', sd', o, ks, gs, rs, kvs, ps', us', ts, i, _, rfl, S4', hig, hv1, b1, _, bx1, _, _, rfl, A1.ins, sm_cls T _, sm_nk T _, sm_kept _ _ _ _, c1, rfl, ⟨_, SqL.of A1.lst⟩, fun L hL => lc_list (K := K) (a := c1) (xs := t0.kept.map itR) (fun j H'' => Same H' H'' ∧ H'' L = some (.lst (((t0.kept.map (·.key)).take j).map V.str))) ⟨same_new hL, upd_same⟩ (fun j H'' _ h' => h'.1.seq (SqL.of A1.lst)) ?_ ?_⟩
      · rintro j v H'' hj ⟨s5, hLl⟩
        obtain ⟨y, hy, rfl⟩ := map_at hj
        have hil := (List.getElem?_eq_some_iff.mp hy).1
        refine ⟨rfl, ⟨_, rfl, y.a, _, 0, _, rfl, rfl, (A1.its y (List.mem_of_getElem? hy)).ts (.of_same s5), atI0, _, hLl, ?_, fun g ob eg => ?_, ?_⟩⟩
        · rw [List.length_map, List.length_take, List.length_map]
          exact len_lt (Nat.le_trans (Nat.min_le_right _ _) hl1)
        · rw [upd_ne (ne_of_none eg hL)]
          exact s5 _ _ eg
        · rw [upd_same, List.take_add_one, List.getElem?_map, hy, List.map_append]
          rfl
      · rintro H5 ⟨s5, hLl⟩
        rw [List.length_map, List.take_of_length_le (by rw [List.length_map]; exact Nat.le_refl _)] at hLl
        have S5 := S4.same s5
        have A5 := A0.same s5
        refine ⟨_, rfl, a, _, dx, _, _, rfl, S5.ins, cl, T.n_Store_samples, st_samples _ _ _, _, rfl, sd, _, pk gs i, _, rfl, rfl, S5.dic, hvv, b0, _, bx0, _, _, rfl, A5.ins, sm_cls T _, sm_nk T _, sm_kept _ _ _ _, c0, rfl, ⟨_, SqL.of A5.lst⟩, fun M hM => lc_list (K := K) (a := c0) (xs := s0.kept.map itR) (fun j H'' => Same H5 H'' ∧ H'' M = some (.lst [])) ⟨same_new hM, upd_same⟩ (fun j H'' _ h' => h'.1.seq (SqL.of A5.lst)) ?_ ?_⟩
        · rintro j v H'' hj ⟨s6, hMl⟩
          obtain ⟨y, hy, rfl⟩ := map_at hj
          have hym := List.mem_of_getElem? hy
          refine ⟨rfl, ⟨_, rfl, y.a, _, 0, _, rfl, rfl, (A5.its y hym).ts (.of_same s6), atI0, _, rfl, L, _, rfl, .inl (SqL.of (s6 _ _ hLl)), rfl, flat_keys _, ?_⟩⟩
          have hno : y.key ∉ t0.kept.map (·.key) := fun z => by
            rw [List.map_append, List.nodup_append] at hkn
            exact hkn.2.2 _ (List.mem_map.mpr ⟨y, hym, rfl⟩) _ z rfl
          rw [if_neg (by decide), inV_strs, decide_eq_false hno]
          exact ⟨_, rfl, s6, hMl⟩
        · rintro H6 ⟨s6, hMl⟩
          refine ⟨M, [], rfl, SqL.of hMl, by decide, fun ys g hg _ hgn => ?_⟩
          have e0 : ys = [] := hg.eq_nil
          subst e0
          refine ⟨_, rfl, g, _, rfl, .inl (SqL.of upd_same), _, _, rfl, rfl, _, rfl, ?_⟩
          refine iteF ?_
          exact ⟨_, _, _, rfl, ((s4.trans s5).trans s6).trans (same_new hgn)⟩
    -- found = Store(..)
    rintro σ H4 ⟨o4, o5, o6, rfl, s4⟩
    have s14 := s13.trans s4
    have S4 := S.same s14
    have S4' := S'.same s14
    have X4 := X.same s14
    refine ⟨_, rfl, a, _, dx, _, _, rfl, S4.ins, cl, T.n_Store_plan, st_plan _ _ _, _, rfl, a, _, dx, _, _, rfl, S4.ins, cl, T.n_Store_parts, st_parts _ _ _, _, rfl, b, _, dx', _, _, rfl, S4'.ins, cl, T.n_Store_parts, st_parts _ _ _, pl, pl', _, _, rfl, rfl, S4.prt, S4'.prt, (by rw [List.length_map, List.length_map, sizeLine_eq]; omega), fun cat hcat => ?_⟩
    have s5 := same_new (o := .lst (ps.map V.str ++ ps'.map V.str)) hcat
    refine fun f fx hf hfx hne => ?_
    have sm := made_same (C := CS K) hf hfx hne
    have s45 := s5.trans sm
    have hf4 : H4 f = none := s5.free hf
    have nfp : p ≠ f := ne_of_none S4.plan.ins hf4
    have nfc : cat ≠ f := ne_of_none upd_same hf
    have X6 := X4.same s45
    refine ⟨Y, f, fx, p, pdx, D, cat, o, ks, gs, rs, kvs, ps ++ ps', rfl, upd_same, S4.plan.same s45, (by rw [List.map_append]; exact SqL.of (sm _ _ upd_same)), (by rw [List.length_append]; exact hp8), (fun g hg => X6.newY hg), X4.newY hf4, nfp, nfc, fun H7 q qx E2 pl2 sd2 ps2 us2 kA hpp hsd SF => ?_⟩
    have s47 : Same H4 H7 := fun g ob eg => kA g ob (s45 g ob eg) (ne_of_none eg hf4)
    have s07 := s14.trans s47
    have hsd0 : H sd2 = none := s14.free (s45.free hsd)
    refine ⟨rfl, ?_⟩
    -- the samples are merged
    have S7 := S.same s07
    refine ⟨_, rfl, a, _, dx, _, _, rfl, S7.ins, cl, T.n_Store_plan, st_plan _ _ _, p, pdx, _, rfl, S7.plan.ins, pl_no _ _ _ (by decide +kernel), p, pdx, D, o, ks, gs, rs, kvs, rfl, S7.plan, fun H8 lq s8 hlq hlql => ?_⟩
    have s08 := s07.trans s8
    have hlq0 : H lq = none := s07.free hlq
    have X7 := X.same s07
    refine ⟨lq, rfl, ⟨_, SqL.of hlql⟩, for_it walk_list (fun i σ H' => ∃ (o4 o5 o6 : Option V) (acc : List Smp) (us3 : List V) (e1 : ES), σ = [some (.ref a), some (.ref b), some (.ref d.p), some (.ref C), o4, o5, o6, some (.ref f), none, none] ∧ Kp d H H' ∧ H' lq = some (.lst (plcs gs)) ∧ acc.length = i ∧ StA K P w Y H' f fx q qx E2 pl2 sd2 o ks gs rs kvs ps2 us3 (acc ++ (empties rs).drop i) ∧
        ExAt K d Y H' e1 true false rows ∧ Fit (zipT srtI (ss.drop i) (ts.drop i)) e1 ∧ run (zipT srtI ss ts) e = (acc ++ (run (zipT srtI (ss.drop i) (ts.drop i)) e1).1, (run (zipT srtI (ss.drop i) (ts.drop i)) e1).2))
      ⟨_, _, _, [], us2, e, rfl, .of_same s08, hlql, rfl, SF.same s8, X.same s08, hF, rfl⟩ (fun i σ H' _ ⟨_, _, _, _, _, _, _, _, h', _⟩ => SqL.of h') ?_ ?_⟩
    · rintro i v σ H9 H' hi ⟨o4, o5, o6, acc, us3, e1, rfl, k9, hlq9, hal, SF9, X9, hF9, hr9⟩ ⟨rfl, hv⟩
      obtain ⟨hig, rfl⟩ := plcs_at hv
      have S9 := S.kp k9 X.xy
      have S9' := S'.kp k9 X.xy
      obtain ⟨s0, hs0, ok0⟩ := sok_at R oA hig
      obtain ⟨t0, ht0, ok1⟩ := sok_at R oB hig
      have hkn := keys_at hn ok0.sub ok1.sub
      obtain ⟨_, v0, hv0, hvv, b0, c0, bx0, rfl, A0, n1, n2⟩ := S9.get hs0
      obtain ⟨_, v1, hv1, hvv1, b1, c1, bx1, rfl, A1, m1, m2⟩ := S9'.get ht0
      rw [drop_at hs0, drop_at ht0] at hF9 hr9
      have hF10 := (fit_bind _ _ _).mp hF9
      have hF11 := ((fit_bind _ _ _).mp hF10.2).1
      have hr10 : run (zipT srtI ss ts) e = ((acc ++ [(run (mergeT srtI s0 t0) e1).1]) ++ (run (zipT srtI (ss.drop (i + 1)) (ts.drop (i + 1))) (run (mergeT srtI s0 t0) e1).2).1, (run (zipT srtI (ss.drop (i + 1)) (ts.drop (i + 1))) (run (mergeT srtI s0 t0) e1).2).2) := by
        rw [hr9]
        show (acc ++ (run ((mergeT srtI s0 t0).bind fun u => (zipT srtI (ss.drop (i + 1)) (ts.drop (i + 1))).bind fun us => .ret (u :: us)) e1).1, (run ((mergeT srtI s0 t0).bind fun u => (zipT srtI (ss.drop (i + 1)) (ts.drop (i + 1))).bind fun us => .ret (u :: us)) e1).2) = _
        rw [run_bind, run_bind, List.append_assoc]
        rfl
      clear hr9
      have hm := ruleAt_mem (rs := rs) (i := i) (by rw [R.len]; omega)
      have hl1 : (atPlace gs A i).length + (atPlace gs B i).length ≤ 4 := by
        have := len_at gs A i
        have := len_at gs B i
        omega
      have tail : ∀ (v z0 z1 : Addr) (H10 : Hp), H' v = none → H' z0 = none → Kp d H' H10 → SmA K H10 v z0 z1 (run (mergeT srtI s0 t0) e1).1 → ExAt K d Y H10 (run (mergeT srtI s0 t0) e1).2 true false rows →
          gSub (tFld K (tVar 7) "samples") (tVar 4) (rSetN P w) (.ref v) [some (.ref a), some (.ref b), some (.ref d.p), some (.ref C), some (kO (pk gs i)), o5, o6, some (.ref f), none, none] H10 fun σ' H5 => ∃ (o4 o5 o6 : Option V) (acc : List Smp) (us3 : List V) (e1 : ES), σ' = [some (.ref a), some (.ref b), some (.ref d.p), some (.ref C), o4, o5, o6, some (.ref f), none, none] ∧ Kp d H H5 ∧ H5 lq = some (.lst (plcs gs)) ∧ acc.length = i + 1 ∧ StA K P w Y H5 f fx q qx E2 pl2 sd2 o ks gs rs kvs ps2 us3 (acc ++ (empties rs).drop (i + 1)) ∧
            ExAt K d Y H5 e1 true false rows ∧ Fit (zipT srtI (ss.drop (i + 1)) (ts.drop (i + 1))) e1 ∧ run (zipT srtI ss ts) e = (acc ++ (run (zipT srtI (ss.drop (i + 1)) (ts.drop (i + 1))) e1).1, (run (zipT srtI (ss.drop (i + 1)) (ts.drop (i + 1))) e1).2) := fun v z0 z1 H10 hv0' hz0 k10 sA X10 => by
        have SF10 := SF9.kp k10 X.xy
        have hvX : ¬ Y v := X9.newY hv0'
        have hzX : ¬ Y z0 := X9.newY hz0
        refine ⟨_, rfl, f, _, fx, _, _, rfl, SF10.ins, cl, T.n_Store_samples, st_samples _ _ _, _, rfl, sd2, _, pk gs i, rfl, rfl, SF10.dic, ?_, ?_⟩
        · rw [List.length_zip, pks_len, sizeLine_eq]
          have := R.le3
          have := R.len
          omega
        · have SF11 := SF10.put hig (v := .ref v) (s := (run (mergeT srtI s0 t0) e1).1) ⟨v, z0, z1, rfl, sA, hvX, hzX⟩
          have eset : (acc ++ (empties rs).drop i).set i (run (mergeT srtI s0 t0) e1).1 = (acc ++ [(run (mergeT srtI s0 t0) e1).1]) ++ (empties rs).drop (i + 1) := by
            rw [drop_at (empties_at (rs := rs) (i := i) (by rw [R.len]; omega)), List.set_append_right _ _ (by omega), hal, Nat.sub_self, List.set_cons_zero, List.append_assoc]
            rfl
          rw [eset] at SF11
          have nlq : lq ≠ sd2 := ne_of hlq9 SF9.dic (fun z => nomatch z)
          have lqX : ¬ d.X lq := X.newX hlq0
          exact ⟨_, _, _, _, _, _, rfl, (k9.trans k10).mine hsd0, by rw [upd_ne nlq]; exact k10.keep _ _ hlq9 lqX, by rw [List.length_append, hal]; rfl, SF11, X10.updN SF10.dic (fun z => SF10.nx.2.2.2.2 (X.xy _ z)), hF11, hr10⟩
      have hsu : s0.un = (ruleAt rs i).1 := ok0.un
      have goU : s0.un = true → tMeth (smC K true) "merge" (spSmMerge K true) [] E0 (tOp (rIxN P w) (tFld K (tVar 0) "samples") (tVar 4)) (tCons (tMeth (CS K) "sample" (spStSample K P w) [] E0 (tVar 1) (tCons (tVar 4) tNil)) (tCons (tVar 2) tNil)) [some (.ref a), some (.ref b), some (.ref d.p), some (.ref C), some (kO (pk gs i)), o5, o6, some (.ref f), none, none] H' fun x1 H4 => gSub (tFld K (tVar 7) "samples") (tVar 4) (rSetN P w) x1 [some (.ref a), some (.ref b), some (.ref d.p), some (.ref C), some (kO (pk gs i)), o5, o6, some (.ref f), none, none] H4 fun σ' H5 => ∃ (o4 o5 o6 : Option V) (acc : List Smp) (us3 : List V) (e1 : ES), σ' = [some (.ref a), some (.ref b), some (.ref d.p), some (.ref C), o4, o5, o6, some (.ref f), none, none] ∧ Kp d H H5 ∧ H5 lq = some (.lst (plcs gs)) ∧ acc.length = i + 1 ∧ StA K P w Y H5 f fx q qx E2 pl2 sd2 o ks gs rs kvs ps2 us3 (acc ++ (empties rs).drop (i + 1)) ∧
            ExAt K d Y H5 e1 true false rows ∧ Fit (zipT srtI (ss.drop (i + 1)) (ts.drop (i + 1))) e1 ∧ run (zipT srtI ss ts) e = (acc ++ (run (zipT srtI (ss.drop (i + 1)) (ts.drop (i + 1))) e1).1, (run (zipT srtI (ss.drop (i + 1)) (ts.drop (i + 1))) e1).2) := fun hu => by
        have A3 := A0.ins
        rw [hu] at A3
        refine ⟨_, rfl, a, _, dx, _, _, rfl, S9.ins, cl, T.n_Store_samples, st_samples _ _ _, _, rfl, sd, _, pk gs i, _, rfl, rfl, S9.dic, hvv, b0, bx0, _, rfl, A3, sm_no _ _ _ _ _ (by decide +kernel), _, rfl, b, dx', _, rfl, S9'.ins, st_no _ _ _ _ (by decide +kernel), _, rfl, Y, b, dx', p', pdx', D', pl', sd', o, ks, gs, rs, kvs, ps', us', ts, i, _, rfl, S9', hig, hv1, ?_⟩
        exact ⟨_, rfl, d, Y, b0, c0, bx0, b1, c1, bx1, ruleAt rs i, atPlace gs A i, atPlace gs B i, s0, t0, e1, rows, rfl, A0, A1, by rw [← hsu]; exact hu, R.hi _ hm, ok0, ok1, atPlace_ok iA _, atPlace_ok iB _, hl1, hkn, ⟨fun z => n1 (X.xy _ z), fun z => n2 (X.xy _ z)⟩, ⟨fun z => m1 (X.xy _ z), fun z => m2 (X.xy _ z)⟩, X9, hF10.1, tail⟩
      have goW : s0.un = false → tMeth (smC K false) "merge" (spSmMerge K false) [] E0 (tOp (rIxN P w) (tFld K (tVar 0) "samples") (tVar 4)) (tCons (tMeth (CS K) "sample" (spStSample K P w) [] E0 (tVar 1) (tCons (tVar 4) tNil)) (tCons (tVar 2) tNil)) [some (.ref a), some (.ref b), some (.ref d.p), some (.ref C), some (kO (pk gs i)), o5, o6, some (.ref f), none, none] H' fun x1 H4 => gSub (tFld K (tVar 7) "samples") (tVar 4) (rSetN P w) x1 [some (.ref a), some (.ref b), some (.ref d.p), some (.ref C), some (kO (pk gs i)), o5, o6, some (.ref f), none, none] H4 fun σ' H5 => ∃ (o4 o5 o6 : Option V) (acc : List Smp) (us3 : List V) (e1 : ES), σ' = [some (.ref a), some (.ref b), some (.ref d.p), some (.ref C), o4, o5, o6, some (.ref f), none, none] ∧ Kp d H H5 ∧ H5 lq = some (.lst (plcs gs)) ∧ acc.length = i + 1 ∧ StA K P w Y H5 f fx q qx E2 pl2 sd2 o ks gs rs kvs ps2 us3 (acc ++ (empties rs).drop (i + 1)) ∧
            ExAt K d Y H5 e1 true false rows ∧ Fit (zipT srtI (ss.drop (i + 1)) (ts.drop (i + 1))) e1 ∧ run (zipT srtI ss ts) e = (acc ++ (run (zipT srtI (ss.drop (i + 1)) (ts.drop (i + 1))) e1).1, (run (zipT srtI (ss.drop (i + 1)) (ts.drop (i + 1))) e1).2) := fun hu => by
        have A3 := A0.ins
        rw [hu] at A3
        refine ⟨_, rfl, a, _, dx, _, _, rfl, S9.ins, cl, T.n_Store_samples, st_samples _ _ _, _, rfl, sd, _, pk gs i, _, rfl, rfl, S9.dic, hvv, b0, bx0, _, rfl, A3, sm_no _ _ _ _ _ (by decide +kernel), _, rfl, b, dx', _, rfl, S9'.ins, st_no _ _ _ _ (by decide +kernel), _, rfl, Y, b, dx', p', pdx', D', pl', sd', o, ks, gs, rs, kvs, ps', us', ts, i, _, rfl, S9', hig, hv1, ?_⟩
        exact ⟨_, rfl, d, Y, b0, c0, bx0, b1, c1, bx1, ruleAt rs i, atPlace gs A i, atPlace gs B i, s0, t0, e1, rows, rfl, A0, A1, by rw [← hsu]; exact hu, R.hi _ hm, ok0, ok1, atPlace_ok iA _, atPlace_ok iB _, hl1, hkn, ⟨fun z => n1 (X.xy _ z), fun z => n2 (X.xy _ z)⟩, ⟨fun z => m1 (X.xy _ z), fun z => m2 (X.xy _ z)⟩, X9, hF10.1, tail⟩
      cases hu : s0.un with
      | true => exact .inl (goU hu)
      | false => exact .inr (goW hu)
    · rintro σ H9 ⟨o4, o5, o6, acc, us3, e1, rfl, k9, hlq9, hal, SF9, X9, hF9, hr9⟩
      rw [plcs_len] at hal SF9 hr9
      have hsl : ss.drop (gs.length + 1) = [] := List.drop_eq_nil_of_le (by rw [S.len]; omega)
      have htl : ts.drop (gs.length + 1) = [] := List.drop_eq_nil_of_le (by rw [S'.len]; omega)
      rw [hsl, htl] at hr9
      have hr10 : run (zipT srtI ss ts) e = (acc, e1) := by
        rw [hr9]
        show (acc ++ [], e1) = _
        rw [List.append_nil]
      rw [List.drop_eq_nil_of_le (by rw [empties_len R]; omega), List.append_nil] at SF9
      rw [hr10] at k
      exact ⟨_, rfl, k H9 f fx q qx E2 pl2 sd2 ps2 us3 k9 hpp SF9 X9⟩
end
end Sam

set_option maxHeartbeats 4000000
set_option pp.maxSteps 600
namespace Sam
open PySem PySem.Spec PyProof.Rows L2
/-! ### a dict whose keys are outcomes -/
def nk1 (y : Int × List Str) : NestedKey := .tup [.num y.1, .tup (y.2.map NestedKey.text)]
def nk (o : Outcome) : NestedKey := .tup (o.map nk1)
theorem text_inj : ∀ {a b : List Str}, a.map NestedKey.text = b.map NestedKey.text → a = b
  | [], [], _ => rfl
  | x :: a, y :: b, h => by
    rw [List.map_cons, List.map_cons] at h
    injection h with h1 h2
    injection h1 with h1
    rw [h1, text_inj h2]
  | [], _ :: _, h => by cases h
  | _ :: _, [], h => by cases h
theorem nk1_inj {a b : Int × List Str} (h : nk1 a = nk1 b) : a = b := by
  unfold nk1 at h
  injection h with h
  injection h with h1 h2
  injection h1 with h1
  injection h2 with h2 _
  injection h2 with h2
  exact Prod.ext h1 (text_inj h2)
theorem nk_inj : ∀ {a b : Outcome}, nk a = nk b → a = b := by
  intro a b h
  unfold nk at h
  injection h with h
  induction a generalizing b with
  | nil =>
    cases b with
    | nil => rfl
    | cons y b => cases h
  | cons x a ih =>
    cases b with
    | nil => cases h
    | cons y b =>
      rw [List.map_cons, List.map_cons] at h
      injection h with h1 h2
      rw [nk1_inj h1, ih h2]
theorem depth_texts (l : List Str) : NestedKey.depthAll (l.map NestedKey.text) = 0 := by
  induction l with
  | nil => rfl
  | cons x l ih =>
    show max (NestedKey.depth (.text x)) (NestedKey.depthAll (l.map NestedKey.text)) = 0
    rw [ih]
    rfl
theorem depth_nk (o : Outcome) : (nk o).depth ≤ 8 := by
  have h : NestedKey.depthAll (o.map nk1) ≤ 2 := by
    induction o with
    | nil => exact Nat.zero_le _
    | cons y o ih =>
      show max (nk1 y).depth (NestedKey.depthAll (o.map nk1)) ≤ 2
      refine Nat.max_le.mpr ⟨?_, ih⟩
      show NestedKey.depthAll [.num y.1, .tup (y.2.map NestedKey.text)] + 1 ≤ 2
      show max 0 (max (NestedKey.depthAll (y.2.map NestedKey.text) + 1) 0) + 1 ≤ 2
      rw [depth_texts]
      decide
  show NestedKey.depthAll (o.map nk1) + 1 ≤ 8
  omega
section
variable {X : Cx} {pins : List (Addr × Obj)} {σ : L2.St} {H : Hp} {s : Shared}
theorem texts_is {h : Heap} : ∀ {l : List Str} {us : List Value}, Vals (l.map V.str) us → NestedAll h (l.map NestedKey.text) us
  | [], _, r => by cases r; exact .nil
  | x :: l, _, r => by
    cases r with
    | cons r t =>
      obtain ⟨t', rfl⟩ := r
      exact .cons (.text _ _) (texts_is t)
theorem out_all (I : Inv X pins σ H s) : ∀ {o : Outcome} {vs : List V} {us : List Value}, Paired (fun v (y : Int × List Str) => ∃ t k, v = .ref t ∧ SqT X.K H t [.int y.1, .ref k] ∧ SqT X.K H k (y.2.map V.str)) vs o → Vals vs us → NestedAll s.heap (o.map nk1) us
  | _, _, _, .nil, r => by cases r; exact .nil
  | _, _, _, .cons h t, r => by
    cases r with
    | cons r rr =>
      obtain ⟨t0, k, rfl, h1, h2⟩ := h
      cases r
      obtain ⟨its, r1, ⟨o1, e1, c1, n1, d1⟩, _⟩ := I.tuple h1
      obtain ⟨its2, r2, ⟨o2, e2, c2, n2, d2⟩, _⟩ := I.tuple h2
      refine .cons (.tup e1 c1 d1 ?_) (out_all I t rr)
      rw [List.toList_toArray]
      cases r1 with
      | cons q1 q2 =>
        cases q2 with
        | cons q2 q3 =>
          cases q3
          obtain ⟨tk, rfl⟩ := q1
          cases q2
          refine .cons (.int _ _) (.cons (.tup e2 c2 d2 ?_) .nil)
          rw [List.toList_toArray]
          exact texts_is r2
theorem out_is (I : Inv X pins σ H s) {a : Addr} {o : Outcome} (h : OutV X.K H (.ref a) o) : NestedIs s.heap (nk o) (.ref a) := by
  obtain ⟨a', vs, e, h1, h2⟩ := h
  cases e
  obtain ⟨its, r1, ⟨o1, e1, c1, n1, d1⟩, _⟩ := I.tuple h1
  refine .tup e1 c1 d1 ?_
  rw [List.toList_toArray]
  exact out_all I h2 r1
end
/-- outcome, the key's address, the fraction's -/
abbrev SE := List (Outcome × Addr × Addr)
def sX (xs : SE) : List (NestedKey × Addr × Value) := xs.map fun x => (nk x.1, x.2.1, Value.ref x.2.2)
def sumO (P : Program) (w : World) (a : Addr) (xs : SE) : HO := .ext fun h => (a == sysModules) = false ∧ ∃ o es ep, h.get? a = some o ∧ o.ExactDict ∧ o.data = .dict es ep ∧ es.toList = (sX xs).map (entryOfKey (nestedKind P w)) ∧ ((sX xs).map (·.1)).Nodup
def KeysAt (K : PySem.W.Frag) (H : Hp) (xs : SE) : Prop := ∀ x ∈ xs, OutV K H (.ref x.2.1) x.1
def sAt (xs : SE) (o : Outcome) : Option Addr := (xs.find? fun x => decide (x.1 = o)).map fun x => x.2.2
def sPut (xs : SE) (o : Outcome) (b t : Addr) : SE := if (sAt xs o).isSome then xs.map fun x => if x.1 = o then (x.1, x.2.1, t) else x else xs ++ [(o, b, t)]
theorem sX_at (xs : SE) (o : Outcome) : (atKey (sX xs) (nk o)).map (·.2) = (sAt xs o).map Value.ref := by
  unfold atKey sX sAt
  induction xs with
  | nil => rfl
  | cons x xs ih =>
    rw [List.map_cons, List.find?_cons, List.find?_cons]
    by_cases h : x.1 = o
    · rw [decide_eq_true h, decide_eq_true (show nk x.1 = nk o by rw [h])]
      rfl
    · rw [decide_eq_false h, decide_eq_false (fun z => h (nk_inj z))]
      exact ih
theorem sX_put (xs : SE) (o : Outcome) (b t : Addr) : storedH (sX xs) (nk o) b (.ref t) = sX (sPut xs o b t) := by
  have e : (atKey (sX xs) (nk o)).isSome = (sAt xs o).isSome := by
    have z := congrArg Option.isSome (sX_at xs o)
    rw [Option.isSome_map, Option.isSome_map] at z
    exact z
  unfold storedH sPut
  rw [e]
  split
  · unfold sX
    rw [List.map_map, List.map_map]
    refine List.map_congr_left fun x _ => ?_
    show putAt _ _ _ = _
    unfold putAt
    by_cases h : x.1 = o
    · rw [if_pos (show nk x.1 = nk o by rw [h])]
      simp [h]
    · rw [if_neg (fun z => h (nk_inj z))]
      simp [h]
  · unfold sX
    rw [List.map_append]
    rfl
section
variable {X : Cx} {pins : List (Addr × Obj)} {σ : L2.St} {H : Hp} {s : Shared}
theorem sum_of (I : Inv X pins σ H s) {a : Addr} {xs : SE} (h : H a = some (sumO X.prog X.w a xs)) (hk : KeysAt X.K H xs) : (a == sysModules) = false ∧ s.heap.DictOfH (nestedKind X.prog X.w) a (sX xs) := by
  have z : ObjOk X.prog X.w H s.heap a (sumO X.prog X.w a xs) := I.hok a _ h
  obtain ⟨hd, o, es, ep, e1, e2, e3, e4, e5⟩ := z.1
  refine ⟨hd, o, es, ep, e1, e2, e3, e4, fun x hx => ?_, e5⟩
  obtain ⟨y, hy, rfl⟩ := List.mem_map.mp hx
  exact ⟨out_is I (hk y hy), depth_nk _⟩
theorem sum_new {P : Program} {w : World} {H : Hp} {h : Heap} {a : Addr} {xs : SE} (hd : (a == sysModules) = false) (dd : h.DictOfH (nestedKind P w) a (sX xs)) : ObjOk P w H h a (sumO P w a xs) := by
  obtain ⟨o, es, ep, e1, e2, e3, e4, _, e5⟩ := dd
  refine ⟨⟨hd, o, es, ep, e1, e2, e3, e4, e5⟩, ⟨o, e1⟩, fun h1 h2 q st => ?_⟩
  obtain ⟨hd, o, es, ep, e1, r⟩ := q
  exact ⟨hd, o, es, ep, st o e1, r⟩
end
section
variable {X : Cx} {o e f : Expr} {apos cpos pos : Pos} {td ty tx : TE}
/-- {} -/
def tSNew (P : Program) (w : World) : TE := fun _ H Q => ∀ p, H p = none → Q (.ref p) (upd H p (sumO P w p []))
theorem pe_snew (P : Program) (w : World) (hP : X.prog = P := by rfl) (hw : X.w = w := by rfl) : PE X (.Dict [] [] pos) (tSNew P w) := by
  subst hP hw
  exact ⟨fun pins s σ H Q I h => wpAny_Dict_empty ⟨.ref s.heap.objs.size, _, I.laid (a := s.heap.objs.size) (o := sumO X.prog X.w s.heap.objs.size []) (t' := s.toks) (fun _ _ q => Heap.get?_push_of_some _ q) (Nat.le_refl _) (sum_new (beq_eq_false_iff_ne.mpr (Ne.symm (Nat.ne_of_lt I.big))) (Heap.DictOfH.new s.heap)), rfl, h _ (I.hok.fresh (Nat.le_refl _))⟩⟩
/-- sums.get(outcome, x) -/
def tSGet (P : Program) (w : World) (K : PySem.W.Frag) (td ty tx : TE) : TE := fun σ H Q => td σ H fun x H1 => ∃ a xs, x = .ref a ∧ H1 a = some (sumO P w a xs) ∧ KeysAt K H1 xs ∧ ty σ H1 fun y H2 => tx σ H2 fun z H3 => ∃ xs b r, H3 a = some (sumO P w a xs) ∧ KeysAt K H3 xs ∧ y = .ref b ∧ OutV K H3 (.ref b) r ∧ Q (((sAt xs r).map V.ref).getD z) H3
theorem pe_sget (hu : X.A.units + 64 < cLine) (ho : PE X o td) (he : PE X e ty) (hf : PE X f tx) (m : M2 X o "get" apos e f cpos) : PE X (.Call (.Attribute o "get" apos) [e, f] [] cpos) (tSGet X.prog X.w X.K td ty tx) := by
  refine ⟨fun pins s σ H Q I h => ?_⟩
  refine wpAny_Call_method m.base m.few m.line PySem.F.plainAttrs_dict PySem.F.slot_dict_get PySem.F.type_dict_get (thn (ho.run pins s σ H _ I h) fun u s1 ⟨x, H1, I1, rx, a, xs, ex, ha, hk, q1⟩ => ?_)
  subst ex
  obtain rfl : u = Value.ref a := rx
  obtain ⟨hd, dd⟩ := sum_of I1 ha hk
  refine ⟨dd.typeIs, fun b q => ?_, ?_⟩
  · cases q
    obtain ⟨ob, _, _, h1, h2, _⟩ := dd
    exact ⟨ob, h1, h2.2.1⟩
  rw [m.trees]
  refine Calls.callWith_builtin rfl (Calls.evalArgs_plain (Calls.spliced_cons (thn (he.run pins s1 σ H1 _ I1 q1) fun iv s2 ⟨y, H2, I2, ry, q2⟩ =>
    Calls.spliced_cons (thn (hf.run pins s2 σ H2 _ I2 q2) fun fv s3 ⟨z, H3, I3, rz, xs3, b, r, ha3, hk3, ey, hb, q3⟩ => Calls.spliced_nil ?_))))
  subst ey
  obtain rfl : iv = Value.ref b := ry
  obtain ⟨hd3, dd3⟩ := sum_of I3 ha3 hk3
  refine call_meetsIn PySem.F.slot_dict_get dd3.typeIs PySem.F.entry_dict_get (PySem.F.args_dict_get_3 _ _ _) (meetsH_dict_get_default (nestedKind X.prog X.w) a b hd3 fv) ⟨(by show X.A.in1.units + 8 < cLine; show X.A.units + 1 + 8 < cLine; omega), nk r, sX xs3, ⟨out_is I3 hb, depth_nk r⟩, dd3, ?_⟩
  rw [sX_at]
  refine ⟨_, H3, I3.tok _, ?_, q3⟩
  cases sAt xs3 r with
  | none => exact rz
  | some t => exact rfl
/-- sums[outcome] = t -/
def rSSet (P : Program) (w : World) (K : PySem.W.Frag) : TSet := fun o i v H Q => ∃ a xs b r t, o = .ref a ∧ i = .ref b ∧ v = .ref t ∧ H a = some (sumO P w a xs) ∧ KeysAt K H xs ∧ OutV K H (.ref b) r ∧ xs.length < sizeLine ∧ Q (upd H a (sumO P w a (sPut xs r b t)))
theorem set_sum (hu : X.A.units + 64 < cLine) : PSet X (rSSet X.prog X.w X.K) := by
  intro pins s σ H o i v ov iv u Q I ro ri rv h
  obtain ⟨a, xs, b, r, t, rfl, rfl, rfl, ha, hk, hb, hz, q⟩ := h
  cases (show ov = Value.ref a from ro)
  cases (show iv = Value.ref b from ri)
  cases (show u = Value.ref t from rv)
  obtain ⟨hd, dd⟩ := sum_of I ha hk
  refine wpAny_setItem_heap (hsz := by unfold sX; rw [List.length_map]; exact Nat.le_of_lt hz) (knd := nestedKind X.prog X.w) (k := nk r) (by show X.A.units + 1 + 8 < cLine; omega) ⟨out_is I hb, depth_nk r⟩ dd fun h' dd' hs => ⟨_, ?_, q⟩
  rw [sX_put] at dd'
  exact d_write I (by rw [ha]; exact True.intro) hs (let ⟨q, _, _, hq, _⟩ := dd'; ⟨q, hq⟩) (sum_new hd dd')
/-- sums[outcome] -/
def rIxSum (P : Program) (w : World) (K : PySem.W.Frag) : R2 := fun x y H Q => ∃ a xs b r t, x = .ref a ∧ y = .ref b ∧ H a = some (sumO P w a xs) ∧ KeysAt K H xs ∧ OutV K H (.ref b) r ∧ sAt xs r = some t ∧ Q (.ref t) H
theorem ix_sum (P : Program) (w : World) (K : PySem.W.Frag) (hu : X.A.units + 64 < cLine) (hP : X.prog = P := by rfl) (hw : X.w = w := by rfl) (hK : X.K = K := by rfl) : IxR X (rIxSum P w K) := by
  subst hP hw hK
  intro value slice pins s σ H x y v u Q I rx ry h hs
  obtain ⟨a, xs, b, r, t, rfl, rfl, ha, hk, hb, hv, q⟩ := h
  obtain rfl : v = Value.ref a := rx
  obtain rfl : u = Value.ref b := ry
  obtain ⟨hd, dd⟩ := sum_of I ha hk
  have e := sX_at xs r
  rw [hv] at e
  obtain ⟨p, hp, hp2⟩ := Option.map_eq_some_iff.mp (e.trans rfl : (atKey (sX xs) (nk r)).map (·.2) = some (Value.ref t))
  refine tail_any dd.typeIs slot_dict_getitem.lookup (wpAny_getItem_heap (knd := nestedKind X.prog X.w) (k := nk r) (by show X.A.units + 1 + 8 < cLine; omega) ⟨out_is I hb, depth_nk r⟩ dd hp ?_) hs
  rw [hp2]
  exact ⟨.ref t, H, I.tok _, rfl, q⟩
end
end Sam

set_option maxHeartbeats 4000000
set_option pp.maxSteps 600
namespace Sam
open PySem PySem.Spec PyProof.Rows L2
/-! ### outcomes as data -/
def outD1 (y : Int × List Str) : PyData := .tuple [.int y.1, .tuple (y.2.map PyData.str)]
def outD (o : Outcome) : PyData := .tuple (o.map outD1)
theorem dp_strs {K : PySem.W.Frag} {H : Hp} : ∀ l : List Str, DpAll K H (l.map V.str) (l.map PyData.str)
  | [] => .nil
  | x :: l => .cons (.str x) (dp_strs l)
theorem OutV.dp {K : PySem.W.Frag} {H : Hp} {v : V} {o : Outcome} (h : OutV K H v o) : Dp K H v (outD o) := by
  obtain ⟨a, vs, rfl, h1, h2⟩ := h
  refine .tup h1 ?_
  clear h1
  induction h2 with
  | nil => exact .nil
  | cons h _ ih =>
    obtain ⟨t, k, rfl, p, q⟩ := h
    exact .cons (.tup p (.cons (.int _) (.cons (.tup q (dp_strs _)) .nil))) ih
theorem alike_strs : ∀ xs ys : List Str, PySem.W.alikeAll (xs.map PyData.str) (ys.map PyData.str) = true
  | [], _ => by simp [PySem.W.alikeAll]
  | _ :: _, [] => by simp [PySem.W.alikeAll]
  | x :: xs, y :: ys => by
    show PySem.W.alikeAll (.str x :: xs.map .str) (.str y :: ys.map .str) = true
    rw [PySem.W.alikeAll, alike_strs xs ys]
    simp [PySem.W.alike]
theorem alike_outs : ∀ xs ys : Outcome, PySem.W.alikeAll (xs.map outD1) (ys.map outD1) = true
  | [], _ => by simp [PySem.W.alikeAll]
  | _ :: _, [] => by simp [PySem.W.alikeAll]
  | x :: xs, y :: ys => by
    show PySem.W.alikeAll (outD1 x :: xs.map outD1) (outD1 y :: ys.map outD1) = true
    rw [PySem.W.alikeAll, alike_outs xs ys, outD1, outD1]
    simp [PySem.W.alike, PySem.W.alikeAll, alike_strs]
theorem alike_out (x y : Outcome) : PySem.W.alike (outD x) (outD y) = true := by
  rw [outD, outD, PySem.W.alike]
  exact alike_outs x y
theorem depth_strs (l : List Str) : PyData.depthAll (l.map PyData.str) = 0 := by
  induction l with
  | nil => simp [PyData.depthAll]
  | cons x l ih =>
    show PyData.depthAll (.str x :: l.map .str) = 0
    rw [PyData.depthAll, ih]
    simp [PyData.depth]
theorem depth_out (o : Outcome) : (outD o).depth ≤ 3 := by
  have h : PyData.depthAll (o.map outD1) ≤ 2 := by
    induction o with
    | nil => simp [PyData.depthAll]
    | cons y o ih =>
      show PyData.depthAll (outD1 y :: o.map outD1) ≤ 2
      rw [PyData.depthAll]
      refine Nat.max_le.mpr ⟨?_, ih⟩
      rw [outD1]
      simp [PyData.depth, PyData.depthAll, depth_strs]
  rw [outD, PyData.depth]
  omega
/-- the signs of a row of texts, of an outcome: what follows is seen -/
theorem toks_strs : ∀ {a b : List Str} {l m : List (Int ⊕ List Nat)}, PySem.W.keyToksAll (a.map PyData.str) ++ l = PySem.W.keyToksAll (b.map PyData.str) ++ m → a = b ∧ l = m
  | [], [], l, m, h => by
    simp only [List.map_nil, PySem.W.keyToksAll, List.cons_append, List.nil_append, List.cons.injEq, true_and] at h
    exact ⟨rfl, h⟩
  | [], y :: b, l, m, h => by
    simp only [List.map_nil, List.map_cons, PySem.W.keyToksAll, List.cons_append, List.nil_append, List.cons.injEq, Sum.inl.injEq] at h
    exact absurd h.1 (by decide)
  | x :: a, [], l, m, h => by
    simp only [List.map_nil, List.map_cons, PySem.W.keyToksAll, List.cons_append, List.nil_append, List.cons.injEq, Sum.inl.injEq] at h
    exact absurd h.1 (by decide)
  | x :: a, y :: b, l, m, h => by
    simp only [List.map_cons, PySem.W.keyToksAll, PySem.W.keyToks, List.cons_append, List.nil_append, List.append_assoc, List.cons.injEq, Sum.inr.injEq, true_and] at h
    obtain ⟨e1, e2⟩ := toks_strs h.2
    exact ⟨by rw [PySem.W.str_of_cps h.1, e1], e2⟩
theorem toks_outs : ∀ {a b : Outcome} {l m : List (Int ⊕ List Nat)}, PySem.W.keyToksAll (a.map outD1) ++ l = PySem.W.keyToksAll (b.map outD1) ++ m → a = b ∧ l = m
  | [], [], l, m, h => by
    simp only [List.map_nil, PySem.W.keyToksAll, List.cons_append, List.nil_append, List.cons.injEq, true_and] at h
    exact ⟨rfl, h⟩
  | [], y :: b, l, m, h => by
    simp only [List.map_nil, List.map_cons, PySem.W.keyToksAll, List.cons_append, List.nil_append, List.cons.injEq, Sum.inl.injEq] at h
    exact absurd h.1 (by decide)
  | x :: a, [], l, m, h => by
    simp only [List.map_nil, List.map_cons, PySem.W.keyToksAll, List.cons_append, List.nil_append, List.cons.injEq, Sum.inl.injEq] at h
    exact absurd h.1 (by decide)
  | (n, xs) :: a, (n', ys) :: b, l, m, h => by
    simp only [List.map_cons, outD1, PySem.W.keyToksAll, PySem.W.keyToks, List.cons_append, List.nil_append, List.append_assoc, List.cons.injEq, Sum.inl.injEq, true_and] at h
    obtain ⟨e0, h⟩ := h
    obtain ⟨e1, h⟩ := toks_strs h
    simp only [List.cons.injEq, true_and] at h
    obtain ⟨e2, e3⟩ := toks_outs h
    exact ⟨by rw [e0, e1, e2], e3⟩
theorem out_toks_inj {a b : Outcome} (h : PySem.W.keyToks (outD a) = PySem.W.keyToks (outD b)) : a = b := by
  rw [outD, outD, PySem.W.keyToks, PySem.W.keyToks] at h
  exact (toks_outs (l := []) (m := []) (by rw [List.append_nil, List.append_nil]; exact h)).1
def leO : Outcome → Outcome → Bool := PySem.W.dataLe false outD
theorem leO_trans (a b c : Outcome) (h1 : leO a b = true) (h2 : leO b c = true) : leO a c = true := (PySem.W.sortLe_total (listOrd itemOrd) false fun b => PySem.W.keyToks (outD b)).trans a b c h1 h2
theorem leO_total (a b : Outcome) : (leO a b || leO b a) = true := by
  rcases (PySem.W.sortLe_total (listOrd itemOrd) false fun b => PySem.W.keyToks (outD b)).total a b with h | h
  · rw [show leO a b = true from h, Bool.true_or]
  · rw [show leO b a = true from h, Bool.or_true]
theorem leO_anti (a b : Outcome) (h1 : leO a b = true) (h2 : leO b a = true) : a = b := by
  have h1' : (!PyProof.Rows.lexLt itemOrd (PySem.W.keyToks (outD b)) (PySem.W.keyToks (outD a))) = true := h1
  have h2' : (!PyProof.Rows.lexLt itemOrd (PySem.W.keyToks (outD a)) (PySem.W.keyToks (outD b))) = true := h2
  rw [Bool.not_eq_true'] at h1' h2'
  exact out_toks_inj (lex_total (O := itemOrd) _ _ h2' h1')
/-! ### sorted(sums) -/
theorem each_at {α β : Type} {R : α → β → Prop} : ∀ {as : List α} {bs : List β}, as.length = bs.length → (∀ (i : Nat) (a : α) (b : β), as[i]? = some a → bs[i]? = some b → R a b) → PySem.W.EachIs R as bs
  | [], [], _, _ => .nil
  | a :: as, b :: bs, hl, h => .cons (h 0 a b rfl rfl) (each_at (by simpa using hl) fun i x y e1 e2 => h (i + 1) x y (by simpa using e1) (by simpa using e2))
  | [], _ :: _, hl, _ => by simp at hl
  | _ :: _, [], hl, _ => by simp at hl
theorem each_vals2 {β : Type} {val : β → V} : ∀ {us : List Value} {bs : List β}, PySem.W.EachIs (fun u b => RelV (val b) u) us bs → Vals (bs.map val) us
  | _, _, .nil => .nil
  | _, _, .cons r t => .cons r (each_vals2 t)
def rSortSum (P : Program) (w : World) (K : PySem.W.Frag) : List V → Hp → VK → Prop := fun vs H Q => ∃ (a : Addr) (xs : SE), vs = [V.ref a] ∧ H a = some (sumO P w a xs) ∧ KeysAt K H xs ∧ (∀ x ∈ xs, x.1 ≠ []) ∧ xs.length ≤ sizeLine ∧
  ∀ p : Addr, H p = none → Q (.ref p) (upd H p (.lst ((xs.mergeSort (PySem.W.dataLe false fun x => outD x.1)).map fun x => .ref x.2.1)))
theorem cr_sortSum {X : Cx} (hcalm : X.calm = true) (hu : X.A.units + 64 < cLine) : CallR X (.builtin "sorted") (rSortSum X.prog X.w X.K) := by
  intro pins s σ H vs us Q I r q
  obtain ⟨a, xs, ex, ha, hk, hne, hz, q⟩ := q
  subst ex
  obtain ⟨u, eu, rx⟩ := vals1 r
  subst eu
  cases rx
  have zz : ObjOk X.prog X.w H s.heap a (sumO X.prog X.w a xs) := I.hok a _ ha
  obtain ⟨hd, o, es, ep, ho, hx, hdt, he, hn⟩ := zz.1
  have hes : es.size = xs.length := by
    rw [size_of_entries he]
    unfold sX
    rw [List.length_map]
  refine Calls.call_function_entry PyProof.Rows.kind_sorted PyProof.Rows.plain_sorted PyProof.Rows.entry_sorted (PyProof.Rows.args_sorted1 _) ?_
  unfold Builtin.«sorted»
  refine wpAny_bind (m := checkCount "sorted" 1 1 _) (wpAny_pure ?_)
  refine wpAny_bind (PySem.W.kdu_collect (A := X.A.in1) (kdl_raw hd hx hdt) (I.ok.hd hcalm) ho (by rw [hes]; exact hz) fun h' tk acc hkp hacc => ?_)
  have hal : acc.toList.length = xs.length := by rw [Array.length_toList, hacc.1, hes]
  have hS : PySem.W.EachIs (fun u (x : Outcome × Addr × Addr) => RelV (V.ref x.2.1) u) acc.toList xs := each_at hal fun j v x e1 e2 => by
    obtain ⟨en, hen, hv⟩ := hacc.2 j v (by rw [← Array.getElem?_toList]; exact e1)
    have qe := entry_at he j
    have e3 : (sX xs)[j]? = some (nk x.1, x.2.1, Value.ref x.2.2) := by
      unfold sX
      rw [List.getElem?_map, e2]
      rfl
    rw [hen, e3] at qe
    have e4 : en = entryOfKey (nestedKind X.prog X.w) (nk x.1, x.2.1, Value.ref x.2.2) := Option.some.inj qe
    rw [hv, e4]
    rfl
  have I1 : Inv X pins σ H { s with heap := h', toks := tk } := I.kept hkp
  have hR : PySem.W.EachIs (fun u (x : Outcome × Addr × Addr) => ∃ as, Reads h' u (outD x.1) as) acc.toList xs := each_and hS fun u x hm ru => Dp.reads I1 (outD x.1) _ u (hk x hm).dp ru
  refine wpAny_bind (wpAny_newList ?_ (by rw [hal, sizeLine_eq]; rw [sizeLine_eq] at hz; omega))
  have hoL : (h'.push (seqObj "list" acc.toList.toArray 0)).get? h'.objs.size = some (seqObj "list" acc.toList.toArray 0) := Heap.get?_push_size _ rfl
  show wpAny _ _ _ _ _ { s with heap := h'.push (seqObj "list" acc.toList.toArray 0), toks := tk }
  have hR2 : PySem.W.EachIs (fun u (x : Outcome × Addr × Addr) => ∃ as, Reads (PySem.W.sortingHeap (h'.push (seqObj "list" acc.toList.toArray 0)) h'.objs.size acc.toList) u (outD x.1) as) acc.toList xs := hR.mono fun _ _ ⟨as, rr⟩ => ⟨as, PyProof.Rows.Reads.keeps (fun b ob e => by
    have hb : b < h'.objs.size := Heap.lt_size e
    exact (PySem.W.sortingHeap_old (Nat.ne_of_lt hb) (Heap.get?_push_of_some _ e))) rr⟩
  have hal2 : PySem.W.AllAlike (xs.map fun x => outD x.1) := PySem.W.AllAlike.of fun x y => alike_out x.1 y.1
  have hso : PySem.W.Sortable (xs.map fun x => outD x.1) := .inl fun d hd => by
    obtain ⟨x, hx, rfl⟩ := List.mem_map.mp hd
    cases e : x.1 with
    | nil => exact absurd e (hne x hx)
    | cons y r => exact ⟨_, _, rfl⟩
  refine wpAny_bind (wpAny_holding (wpAny_call_entry PyProof.Rows.slot_list_sort ⟨_, hoL, rfl⟩ PyProof.Rows.entry_list_sort
    (PySem.W.list_sort_vals (κ := PySem.W.dataKind (PySem.W.sortingHeap (h'.push (seqObj "list" acc.toList.toArray 0)) h'.objs.size acc.toList) (xs.map fun x => outD x.1)) hoL
      (PySem.W.SortsAt.data (s := { s with heap := PySem.W.sortingHeap (h'.push (seqObj "list" acc.toList.toArray 0)) h'.objs.size acc.toList, toks := tk }) (PySem.W.each_map (R := fun v d => ∃ as, Reads (PySem.W.sortingHeap (h'.push (seqObj "list" acc.toList.toArray 0)) h'.objs.size acc.toList) v d as) (fun x : Outcome × Addr × Addr => outD x.1) hR2) hal2 hso (PySem.W.bound_map fun x _ => by have := depth_out x.1; show X.A.units + 1 + 1 + _ < cLine; omega))
      (by rw [hal]; exact hz) ⟨_, rfl, ?_⟩) (PyProof.Rows.args_list_sort _)))
  have hout := PySem.W.sortVals_data (h' := PySem.W.sortingHeap (h'.push (seqObj "list" acc.toList.toArray 0)) h'.objs.size acc.toList) (enc := fun x : Outcome × Addr × Addr => outD x.1) false hS hR2 hal2
  generalize hov : PySem.W.sortVals (PySem.W.dataKind (PySem.W.sortingHeap (h'.push (seqObj "list" acc.toList.toArray 0)) h'.objs.size acc.toList) (xs.map fun x => outD x.1)) false acc.toList acc.toList = out at hout ⊢
  obtain ⟨e', he'⟩ := PyProof.Rows.sortedHeap_at (vs := acc.toList) (out := out.toArray) hoL
  have hlen : ((xs.mergeSort (PySem.W.dataLe false fun x => outD x.1)).map fun x => V.ref x.2.1).length ≤ sizeLine := by
    rw [List.length_map, List.length_mergeSort]
    exact hz
  refine wpAny_pure ⟨_, rfl, .ref h'.objs.size, upd H h'.objs.size (.lst ((xs.mergeSort (PySem.W.dataLe false fun x => outD x.1)).map fun x => .ref x.2.1)), I1.laid (t' := tk) (fun b u e => ?_) (Nat.le_refl _)
    ⟨hlen, out, e', each_vals2 hout, he'⟩, rfl, q _ (I1.hok.fresh (Nat.le_refl _))⟩
  have hb : b < h'.objs.size := Heap.lt_size e
  rw [PyProof.Rows.sortedHeap_old (Nat.ne_of_lt hb) (by rw [size_push']; exact Nat.lt_succ_of_lt hb)]
  exact Heap.get?_push_of_some _ e
end Sam

set_option maxHeartbeats 4000000
set_option pp.maxSteps 600
namespace Sam
open PySem PySem.Spec PyProof.Rows L2
/-! ### rows summed up by outcome -/
abbrev RowQ := Outcome × Rat
def addQ (acc : List RowQ) (r : RowQ) : List RowQ := if r.1 ∈ acc.map Prod.fst then acc.map fun y => if y.1 = r.1 then (y.1, y.2 + r.2) else y else acc ++ [(r.1, 0 + r.2)]
def accQ (rows : List RowQ) : List RowQ := rows.foldl addQ []
def leQ : RowQ → RowQ → Bool := PySem.W.dataLe false fun y => outD y.1
def lawL (rows : List RowQ) : List RowQ := (accQ rows).mergeSort leQ
def pr (rows : List RowQ) (o : Outcome) : Rat := sm rows fun r => if r.1 = o then r.2 else 0
theorem accQ_snoc (rows : List RowQ) (r : RowQ) : accQ (rows ++ [r]) = addQ (accQ rows) r := by
  unfold accQ
  rw [List.foldl_append]
  rfl
theorem addQ_keys (acc : List RowQ) (r : RowQ) : (addQ acc r).map Prod.fst = if r.1 ∈ acc.map Prod.fst then acc.map Prod.fst else acc.map Prod.fst ++ [r.1] := by
  unfold addQ
  split
  · rw [List.map_map]
    refine List.map_congr_left fun y _ => ?_
    show (if y.1 = r.1 then (y.1, y.2 + r.2) else y).1 = y.1
    split <;> rfl
  · rw [List.map_append]
    rfl
theorem snoc_ind {α : Type} {P : List α → Prop} (h0 : P []) (h1 : ∀ l x, P l → P (l ++ [x])) (l : List α) : P l := by
  have h : ∀ m : List α, P m.reverse := fun m => by
    induction m with
    | nil => exact h0
    | cons x m ih => rw [List.reverse_cons]; exact h1 _ _ ih
  rw [← List.reverse_reverse l]
  exact h _
theorem accQ_nodup (rows : List RowQ) : ((accQ rows).map Prod.fst).Nodup := by
  refine snoc_ind (P := fun rows => ((accQ rows).map Prod.fst).Nodup) ?_ (fun l r ih => ?_) rows
  · exact List.nodup_nil
  · rw [accQ_snoc, addQ_keys]
    split
    · exact ih
    · next h => exact List.nodup_append.mpr ⟨ih, by simp, fun a ha b hb e => h (by rw [← List.mem_singleton.mp hb, ← e]; exact ha)⟩
theorem pr_snoc (rows : List RowQ) (r : RowQ) (o : Outcome) : pr (rows ++ [r]) o = pr rows o + if r.1 = o then r.2 else 0 := by
  unfold pr
  rw [sm_append, sm_cons, sm_nil]
  grind
theorem accQ_mem (rows : List RowQ) : ∀ o c, (o, c) ∈ accQ rows ↔ o ∈ rows.map Prod.fst ∧ c = pr rows o := by
  refine snoc_ind (P := fun rows => ∀ o c, (o, c) ∈ accQ rows ↔ o ∈ rows.map Prod.fst ∧ c = pr rows o) ?_ (fun l r ih => ?_) rows
  · intro o c
    exact ⟨fun h => (nomatch h), fun h => (nomatch h.1)⟩
  · intro o c
    have hkey : r.1 ∈ (accQ l).map Prod.fst ↔ r.1 ∈ l.map Prod.fst := by
      constructor
      · intro h
        obtain ⟨⟨o', c'⟩, hm, e⟩ := List.mem_map.mp h
        rw [← e]
        exact ((ih _ _).mp hm).1
      · intro h
        exact List.mem_map.mpr ⟨(r.1, pr l r.1), (ih _ _).mpr ⟨h, rfl⟩, rfl⟩
    rw [accQ_snoc, List.map_append, List.mem_append, pr_snoc]
    unfold addQ
    by_cases h : r.1 ∈ (accQ l).map Prod.fst
    · rw [if_pos h, List.mem_map]
      constructor
      · rintro ⟨⟨o', c'⟩, hm, e⟩
        obtain ⟨h1, h2⟩ := (ih _ _).mp hm
        by_cases q : o' = r.1
        · have e' : (if o' = r.1 then (o', c' + r.2) else (o', c')) = (o, c) := e
          rw [if_pos q] at e'
          cases e'
          exact ⟨.inl h1, by rw [if_pos q.symm, h2]⟩
        · have e' : (if o' = r.1 then (o', c' + r.2) else (o', c')) = (o, c) := e
          rw [if_neg q] at e'
          cases e'
          exact ⟨.inl h1, by rw [if_neg (Ne.symm q), h2]; grind⟩
      · rintro ⟨h1, h2⟩
        have h1' : o ∈ l.map Prod.fst := by
          rcases h1 with h1 | h1
          · exact h1
          · rw [List.mem_singleton.mp (show o ∈ [r.1] from h1)]
            exact hkey.mp h
        refine ⟨(o, pr l o), (ih _ _).mpr ⟨h1', rfl⟩, ?_⟩
        show (if o = r.1 then (o, pr l o + r.2) else (o, pr l o)) = (o, c)
        by_cases q : o = r.1
        · rw [if_pos q, h2, if_pos q.symm]
        · rw [if_neg q, h2, if_neg (Ne.symm q)]
          congr 1
          grind
    · rw [if_neg h, List.mem_append, ih]
      have hn : r.1 ∉ l.map Prod.fst := fun z => h (hkey.mpr z)
      have h0 : pr l r.1 = 0 := by
        unfold pr
        have e : ∀ x ∈ l, (if x.1 = r.1 then x.2 else 0) = (0 : Rat) := fun x hx => if_neg fun z => hn (List.mem_map.mpr ⟨x, hx, z⟩)
        clear ih hkey h hn
        induction l with
        | nil => rfl
        | cons x l ih2 => rw [sm_cons, e x List.mem_cons_self, ih2 fun y hy => e y (List.mem_cons_of_mem _ hy)]; grind
      constructor
      · rintro (⟨h1, h2⟩ | h1)
        · have q : ¬ r.1 = o := fun z => hn (by rw [z]; exact h1)
          exact ⟨.inl h1, by rw [if_neg q, h2]; grind⟩
        · cases List.mem_singleton.mp h1
          exact ⟨.inr (by simp), by rw [if_pos rfl, h0]⟩
      · rintro ⟨h1 | h1, h2⟩
        · have q : ¬ r.1 = o := fun z => hn (by rw [z]; exact h1)
          exact .inl ⟨h1, by rw [h2, if_neg q]; grind⟩
        · have e : o = r.1 := List.mem_singleton.mp (show o ∈ [r.1] from h1)
          subst e
          exact .inr (by rw [h2, if_pos rfl, h0]; simp)
theorem pr_pos {rows : List RowQ} (hp : ∀ r ∈ rows, 0 < r.2) {o : Outcome} : o ∈ rows.map Prod.fst ↔ 0 < pr rows o := by
  have nn : 0 ≤ pr rows o := by
    unfold pr
    induction rows with
    | nil => exact Rat.le_refl
    | cons x rows ih =>
      rw [sm_cons]
      have h1 := ih fun r hr => hp r (List.mem_cons_of_mem _ hr)
      have h2 := hp x List.mem_cons_self
      split <;> grind
  induction rows with
  | nil => exact ⟨fun h => (nomatch h), fun h => absurd h (by unfold pr; rw [sm_nil]; decide)⟩
  | cons x rows ih =>
    have h2 := hp x List.mem_cons_self
    have nn2 : 0 ≤ pr rows o := by
      unfold pr
      clear ih nn
      induction rows with
      | nil => exact Rat.le_refl
      | cons y rows ih =>
        rw [sm_cons]
        have h1 := ih fun r hr => hp r (by
          rcases List.mem_cons.mp hr with e | e
          · rw [e]; exact List.mem_cons_self
          · exact List.mem_cons_of_mem _ (List.mem_cons_of_mem _ e))
        have h2 := hp y (by simp)
        split <;> grind
    have e : pr (x :: rows) o = (if x.1 = o then x.2 else 0) + pr rows o := rfl
    have e2 := ih (fun r hr => hp r (List.mem_cons_of_mem _ hr)) nn2
    rw [List.map_cons, List.mem_cons, e]
    by_cases q : x.1 = o
    · rw [if_pos q]
      exact ⟨fun _ => by grind, fun _ => .inl q.symm⟩
    · rw [if_neg q]
      refine ⟨fun h => ?_, fun h => .inr (e2.mpr (by grind))⟩
      rcases h with h | h
      · exact absurd h.symm q
      · have := e2.mp h
        grind
theorem leQ_pw (l : List RowQ) : (l.mergeSort leQ).Pairwise fun a b => leQ a b = true := List.pairwise_mergeSort (fun a b c => leO_trans a.1 b.1 c.1) (fun a b => leO_total a.1 b.1) l
theorem nodup_of_map {α β : Type} {f : α → β} {l : List α} (h : (l.map f).Nodup) : l.Nodup := (List.pairwise_map.mp h).imp fun hn e => hn (by rw [e])
/-- the law says all -/
theorem lawL_eq {rows rows' : List RowQ} (hp : ∀ r ∈ rows, 0 < r.2) (hp' : ∀ r ∈ rows', 0 < r.2) (h : ∀ o, pr rows o = pr rows' o) : lawL rows = lawL rows' := by
  have hm : ∀ y : RowQ, y ∈ accQ rows ↔ y ∈ accQ rows' := fun ⟨o, c⟩ => by
    rw [accQ_mem, accQ_mem, pr_pos hp, pr_pos hp', h]
  have hperm : (accQ rows).Perm (accQ rows') := (List.perm_ext_iff_of_nodup (nodup_of_map (accQ_nodup rows)) (nodup_of_map (accQ_nodup rows'))).mpr hm
  refine List.Perm.eq_of_pairwise (le := fun a b => leQ a b = true) (fun a b ha hb h1 h2 => ?_) (leQ_pw _) (leQ_pw _) ((List.mergeSort_perm _ _).trans (hperm.trans (List.mergeSort_perm _ _).symm))
  have e := leO_anti a.1 b.1 h1 h2
  obtain ⟨o, c⟩ := a
  obtain ⟨o', c'⟩ := b
  have e : o = o' := e
  subst e
  have ha' := (accQ_mem rows _ _).mp ((List.mergeSort_perm _ _).mem_iff.mp ha)
  have hb' := (accQ_mem rows' _ _).mp ((List.mergeSort_perm _ _).mem_iff.mp hb)
  rw [ha'.2, hb'.2, h]
theorem accQ_pos {rows : List RowQ} (hp : ∀ r ∈ rows, 0 < r.2) : ∀ y ∈ accQ rows, 0 < y.2 := fun ⟨o, c⟩ hy => by
  obtain ⟨h1, h2⟩ := (accQ_mem rows o c).mp hy
  show 0 < c
  rw [h2]
  exact (pr_pos hp).mp h1
theorem accQ_sz {n : Nat} : ∀ {rows : List RowQ}, (∀ r ∈ rows, Sz r.2 n) → ∀ y ∈ accQ rows, Sz y.2 (rows.length * (n + 1) + 1) := fun {rows} => by
  refine snoc_ind (P := fun rows => (∀ r ∈ rows, Sz r.2 n) → ∀ y ∈ accQ rows, Sz y.2 (rows.length * (n + 1) + 1)) (fun _ y hy => nomatch hy) (fun l r ih h => ?_) rows
  have h1 := ih fun x hx => h x (List.mem_append_left _ hx)
  have h2 := h r (List.mem_append_right _ (by simp))
  rw [accQ_snoc, List.length_append, List.length_singleton, Nat.add_mul, Nat.one_mul]
  intro y hy
  unfold addQ at hy
  split at hy
  · obtain ⟨z, hz, rfl⟩ := List.mem_map.mp hy
    split
    · exact ((h1 z hz).add h2).mono (by omega)
    · exact (h1 z hz).mono (by omega)
  · rcases List.mem_append.mp hy with hy | hy
    · exact (h1 y hy).mono (by omega)
    · rw [List.mem_singleton.mp hy]
      exact (sz0.add h2).mono (by omega)
theorem accQ_len (rows : List RowQ) : (accQ rows).length ≤ rows.length := by
  refine snoc_ind (P := fun rows => (accQ rows).length ≤ rows.length) (Nat.le_refl _) (fun l r ih => ?_) rows
  rw [accQ_snoc, List.length_append, List.length_singleton]
  unfold addQ
  split
  · rw [List.length_map]
    omega
  · rw [List.length_append, List.length_singleton]
    omega
end Sam

set_option maxHeartbeats 4000000
set_option pp.maxSteps 600
namespace Sam
open PySem PySem.Spec PyProof.Rows L2
theorem op_neDK {X : Cx} (K : PySem.W.Frag) (hu : X.A.units + 64 < cLine) (h : X.K = K := by rfl) : OpR X (compareOp .NotEq) (rNeD K) := by
  subst h
  exact op_neD hu
theorem Fr.dp {K : PySem.W.Frag} {H : Hp} {v : V} {x : Rat} (h : Fr K H v x) : Dp K H v (.tuple [.int x.num, .int x.den]) := let ⟨a, e, q⟩ := h; by
  subst e
  exact .tup q (.cons (.int _) (.cons (.int _) .nil))
theorem fr_shaped (i j : Int) : SeqAt.shaped (.tuple [.int i, .int j]) = true := by
  simp [SeqAt.shaped, PyData.canLay0, PyData.canLayAll0, PyData.depth, PyData.depthAll]
def SumAt (K : PySem.W.Frag) (H : Hp) : SE → List RowQ → Prop := Paired fun x y => x.1 = y.1 ∧ OutV K H (.ref x.2.1) x.1 ∧ Fr K H (.ref x.2.2) y.2
section
variable {K : PySem.W.Frag} {H H' : Hp} {xs : SE} {acc : List RowQ}
theorem SumAt.ts (h : SumAt K H xs acc) (e : Ts H H') : SumAt K H' xs acc := L2.Paired.mapP h fun _ _ ⟨a, b, c⟩ => ⟨a, b.ts e, c.ts e⟩
theorem SumAt.keys (h : SumAt K H xs acc) : KeysAt K H xs := by
  induction h with
  | nil => exact fun x hx => nomatch hx
  | cons r _ ih =>
    intro x hx
    rcases List.mem_cons.mp hx with e | e
    · rw [e]; exact r.2.1
    · exact ih x e
theorem SumAt.fst (h : SumAt K H xs acc) : xs.map (·.1) = acc.map Prod.fst := by
  induction h with
  | nil => rfl
  | cons r _ ih => rw [List.map_cons, List.map_cons, ih, r.1]
/-- what is there at a key -/
theorem SumAt.at_ (h : SumAt K H xs acc) (o : Outcome) : match sAt xs o with
    | some t => ∃ c, (o, c) ∈ acc ∧ Fr K H (.ref t) c ∧ (o ∈ acc.map Prod.fst)
    | none => o ∉ acc.map Prod.fst := by
  induction h with
  | nil => exact fun h => nomatch h
  | @cons x y xs acc r t ih =>
    obtain ⟨e, _, f⟩ := r
    unfold sAt
    rw [List.find?_cons]
    by_cases q : x.1 = o
    · rw [decide_eq_true q]
      exact ⟨y.2, by rw [← q, e]; exact List.mem_cons_self, f, by rw [List.map_cons, ← q, e]; exact List.mem_cons_self⟩
    · rw [decide_eq_false q]
      have ih' : match (xs.find? fun x => decide (x.1 = o)).map fun x => x.2.2 with
        | some t => ∃ c, (o, c) ∈ acc ∧ Fr K H (.ref t) c ∧ (o ∈ acc.map Prod.fst)
        | none => o ∉ acc.map Prod.fst := ih
      show match (xs.find? fun x => decide (x.1 = o)).map fun x => x.2.2 with
        | some t => ∃ c, (o, c) ∈ y :: acc ∧ Fr K H (.ref t) c ∧ (o ∈ (y :: acc).map Prod.fst)
        | none => o ∉ (y :: acc).map Prod.fst
      cases hz : (xs.find? fun x => decide (x.1 = o)).map fun x => x.2.2 with
      | some t =>
        rw [hz] at ih'
        obtain ⟨c, h1, h2, h3⟩ := ih'
        exact ⟨c, List.mem_cons_of_mem _ h1, h2, List.mem_cons_of_mem _ h3⟩
      | none =>
        rw [hz] at ih'
        intro z
        rcases List.mem_cons.mp z with z | z
        · exact q (by rw [e]; exact z.symm)
        · exact ih' z
/-- the value of an outcome -/
def valQ (acc : List RowQ) (o : Outcome) : Rat := ((acc.find? fun y => decide (y.1 = o)).map Prod.snd).getD 0
theorem SumAt.val (h : SumAt K H xs acc) (T0 : Fr K H (.ref (He.ga K "NOTHING_ratios")) 0) (o : Outcome) : Fr K H (((sAt xs o).map V.ref).getD (.ref (He.ga K "NOTHING_ratios"))) (valQ acc o) := by
  induction h with
  | nil => exact T0
  | @cons x y xs acc r t ih =>
    obtain ⟨e, _, f⟩ := r
    unfold sAt valQ
    rw [List.find?_cons, List.find?_cons, ← e]
    by_cases q : x.1 = o
    · rw [decide_eq_true q]
      exact f
    · rw [decide_eq_false q]
      exact ih
theorem addQ_val : ∀ (acc : List RowQ) (r : RowQ), (acc.map Prod.fst).Nodup → addQ acc r = if r.1 ∈ acc.map Prod.fst then acc.map fun y => if y.1 = r.1 then (y.1, valQ acc r.1 + r.2) else y else acc ++ [(r.1, valQ acc r.1 + r.2)] := fun acc r hn => by
  have hv : ∀ y ∈ acc, y.1 = r.1 → y.2 = valQ acc r.1 := by
    induction acc with
    | nil => exact fun y hy => nomatch hy
    | cons z acc ih =>
      rw [List.map_cons, List.nodup_cons] at hn
      intro y hy e
      unfold valQ
      rw [List.find?_cons]
      rcases List.mem_cons.mp hy with hy | hy
      · rw [hy] at e ⊢
        rw [decide_eq_true e]
        rfl
      · have : ¬ z.1 = r.1 := fun q => hn.1 (by rw [q, ← e]; exact List.mem_map.mpr ⟨y, hy, rfl⟩)
        rw [decide_eq_false this]
        exact ih hn.2 y hy e
  have h0 : r.1 ∉ acc.map Prod.fst → valQ acc r.1 = 0 := fun h => by
    unfold valQ
    rw [show (acc.find? fun y => decide (y.1 = r.1)) = none from List.find?_eq_none.mpr fun y hy z => h (List.mem_map.mpr ⟨y, hy, of_decide_eq_true z⟩)]
    rfl
  unfold addQ
  by_cases h : r.1 ∈ acc.map Prod.fst
  · rw [if_pos h, if_pos h]
    refine List.map_congr_left fun y hy => ?_
    by_cases e : y.1 = r.1
    · rw [if_pos e, if_pos e, hv y hy e]
    · rw [if_neg e, if_neg e]
  · rw [if_neg h, if_neg h, h0 h]
theorem pair_map2 {α β γ δ : Type} {F : α → β → Prop} {G : γ → δ → Prop} {f : α → γ} {g : β → δ} : ∀ {xs : List α} {ys : List β}, Paired F xs ys → (∀ x y, F x y → G (f x) (g y)) → Paired G (xs.map f) (ys.map g)
  | _, _, .nil, _ => .nil
  | _, _, .cons r t, h => .cons (h _ _ r) (pair_map2 t h)
/-- one row more -/
theorem SumAt.put (h : SumAt K H xs acc) (e : Ts H H') {r : RowQ} (hn : (acc.map Prod.fst).Nodup) {b t : Addr} (hb : OutV K H' (.ref b) r.1) (ht : Fr K H' (.ref t) (valQ acc r.1 + r.2)) : SumAt K H' (sPut xs r.1 b t) (addQ acc r) := by
  rw [addQ_val acc r hn]
  have hf := h.fst
  have hs : (sAt xs r.1).isSome = decide (r.1 ∈ acc.map Prod.fst) := by
    have z := h.at_ r.1
    cases q : sAt xs r.1 with
    | some t =>
      rw [q] at z
      obtain ⟨_, _, _, z⟩ := z
      rw [decide_eq_true z]
      rfl
    | none =>
      rw [q] at z
      rw [decide_eq_false z]
      rfl
  unfold sPut
  rw [hs]
  by_cases m : r.1 ∈ acc.map Prod.fst
  · rw [if_pos (decide_eq_true m), if_pos m]
    refine pair_map2 (h.ts e) fun x y ⟨e1, e2, e3⟩ => ?_
    by_cases q : x.1 = r.1
    · rw [if_pos q, if_pos (e1 ▸ q)]
      exact ⟨e1, e2, ht⟩
    · rw [if_neg q, if_neg fun z => q (by rw [e1]; exact z)]
      exact ⟨e1, e2, e3⟩
  · rw [if_neg (by rw [decide_eq_false m]; decide), if_neg m]
    exact pair_snoc (h.ts e) ⟨rfl, hb, ht⟩
end
theorem each_sort {α β : Type} {R : α → β → Prop} {le : α → α → Bool} {le' : β → β → Bool} : ∀ {as : List α} {bs : List β}, Paired R as bs → (∀ a b, R a b → ∀ a' b', R a' b' → le a a' = le' b b') → Paired R (as.mergeSort le) (bs.mergeSort le') := fun {as bs} h hle => by
  -- both are the first and the second of the sorted pairs
  have hz : ∀ {as : List α} {bs : List β}, Paired R as bs → ∃ zs : List (α × β), as = zs.map Prod.fst ∧ bs = zs.map Prod.snd ∧ ∀ z ∈ zs, R z.1 z.2 := fun h => by
    induction h with
    | nil => exact ⟨[], rfl, rfl, fun z hz => nomatch hz⟩
    | @cons a b as bs r _ ih =>
      obtain ⟨zs, e1, e2, h3⟩ := ih
      exact ⟨(a, b) :: zs, by rw [e1]; rfl, by rw [e2]; rfl, fun z hz => by
        rcases List.mem_cons.mp hz with e | e
        · rw [e]; exact r
        · exact h3 z e⟩
  obtain ⟨zs, rfl, rfl, hR⟩ := hz h
  have e1 : (zs.map Prod.fst).mergeSort le = (zs.mergeSort fun p q => le p.1 q.1).map Prod.fst := (PySem.W.sort_maps Prod.fst (r := fun p q : α × β => le p.1 q.1) (s := le) fun a _ b _ => rfl).symm
  have e2 : (zs.map Prod.snd).mergeSort le' = (zs.mergeSort fun p q => le p.1 q.1).map Prod.snd := (PySem.W.sort_maps Prod.snd (r := fun p q : α × β => le p.1 q.1) (s := le') fun a ha b hb => hle a.1 a.2 (hR a ha) b.1 b.2 (hR b hb)).symm
  rw [e1, e2]
  have hall : ∀ z ∈ zs.mergeSort fun p q => le p.1 q.1, R z.1 z.2 := fun z hz => hR z ((List.mergeSort_perm _ _).mem_iff.mp hz)
  clear e1 e2 h
  generalize (zs.mergeSort fun p q => le p.1 q.1) = ws at hall
  induction ws with
  | nil => exact .nil
  | cons z ws ih => exact .cons (hall z List.mem_cons_self) (ih fun y hy => hall y (List.mem_cons_of_mem _ hy))
end Sam

set_option maxHeartbeats 4000000
set_option pp.maxSteps 600
namespace Sam
open PySem PySem.Spec PyProof.Rows L2
structure RowsOk (rows : List RowQ) : Prop where
  len : rows.length ≤ 3456
  sz : ∀ r ∈ rows, Sz r.2 169
  pos : ∀ r ∈ rows, 0 < r.2
  ne : ∀ r ∈ rows, r.1 ≠ []
  one : qsum (rows.map Prod.snd) = 1
def spFrom (K : PySem.W.Frag) : Sp := fun vs H Q _ => ∃ (a : Addr) (us : List V) (rows : List RowQ), vs = [.ref a] ∧ SqL K H a us ∧ RowL K H us rows ∧ RowsOk rows ∧ ∀ (H' : Hp) (l : Addr) (zs : List V), Same H H' → H l = none → H' l = some (.lst zs) → RowL K H' zs (lawL rows) → Q (.ref l) H'
theorem addQ_len (acc : List RowQ) (r : RowQ) : (addQ acc r).length ≤ acc.length + 1 := by
  unfold addQ
  split
  · rw [List.length_map]; omega
  · rw [List.length_append, List.length_singleton]; omega
theorem pair_swap {α β : Type} {F G : α → β → Prop} : ∀ {xs : List α} {ys : List β}, Paired F xs ys → (∀ x y, x ∈ xs → y ∈ ys → F x y → G x y) → Paired G xs ys
  | _, _, .nil, _ => .nil
  | _, _, .cons r t, h => .cons (h _ _ List.mem_cons_self List.mem_cons_self r) (pair_swap t fun x y hx hy => h x y (List.mem_cons_of_mem _ hx) (List.mem_cons_of_mem _ hy))
section
variable {P : Program} {w : World} {K : PySem.W.Frag} {mg : Str → Option Value} {base : Heap}
theorem ok_law_from (T : Tx K mg) : Cal P w K mg base 5 "law_from" ["rows"] (spFrom K) := by
  obtain ⟨fd, F⟩ := T.d_l_from
  refine ⟨_, fd, T.g_law_from, F.kp, F.binds (ps := ["rows"]) fun _ _ _ _ _ _ us hl => match us, hl with | [_], _ => rfl, F.ok sc_l_from (fun vs H Q E h => ?_) (fun cdv A outer s H vs Q E hr h => ?_)⟩
  · obtain ⟨a, us, rows, rfl, _⟩ := h
    rfl
  · obtain ⟨a, us, rows, rfl, hL, hR, ok, k⟩ := h
    have nd := sc_l_from.nd
    have hu := hr.units
    refine ⟨_, pss_cons (ps_if (pt_not (pt_val (pe_f (ok_are_chances T) hr rfl (pa_cons
        (pe_lc (own := [("_", 4), ("chance", 3)]) (g := gTup K 2 (gCons (gName 4) (gCons (gName 3) gNil))) (tt := tYes) rfl nd (pi_list (pv 0)) (blkOk_by (N := ["rows", "sums", "outcome", "chance", "_"]) (sc := defScope s_l_from) (by decide +kernel))
          (fun _ _ _ _ _ => pg_tup rfl (pgs_cons (pg_name (i := 4) nd rfl (Or.inl rfl)) (pgs_cons (pg_name (i := 3) nd rfl (Or.inl rfl)) pgs_nil))) (fun _ _ _ _ _ => pts_nil) (fun _ _ _ _ _ => pv 3)) pa_nil)))) pss_never pss_nil)
      (pss_cons (ps_set (i := 1) nd rfl (.inr rfl) (pe_snew P w))
      (pss_cons (ps_for PassesOwn.never rfl (pi_list (pv 0)) (pg_tup rfl (pgs_cons (pg_name (i := 2) nd rfl (.inl rfl)) (pgs_cons (pg_name (i := 3) nd rfl (.inl rfl)) pgs_nil)))
        (pss_one (ps_asg (pe_f (ok_plus T) hr rfl (pa_cons (pe_sget hu (pv 1) (pv 2) (pe_glob rfl T.g_NOTHING_ratios (v := .ref _) rfl) ⟨rfl, rfl, rfl, rfl⟩) (pa_cons (pv 3) pa_nil))) (pg_sub (pv 1) (pv 2) (set_sum hu)))))
      (pss_one (ps_ret (pe_lc (own := [("outcome", 2)]) (g := gName 2) rfl nd (pi_list (pe_callB (cr_sortSum rfl hu) (by rfl) T.f_sorted (by decide +kernel) (pa_cons (pv 1) pa_nil))) (blkOk_by (N := ["rows", "sums", "outcome", "chance", "_"]) (sc := defScope s_l_from) (by decide +kernel))
        (fun _ _ _ _ _ => pg_name (i := 2) nd rfl (Or.inl rfl)) (fun _ _ _ _ _ => pts_one (pt_cmpR (op_neDK K hu) (pe_ix (ix_sum P w K hu) (pv 1) (pv 2) fun _ _ => rfl) (pe_glob rfl T.g_NOTHING_ratios (v := .ref _) rfl) (nomark _)))
        (fun _ _ _ _ _ => pe_tup (pa_cons (pv 2) (pa_cons (pe_ix (ix_sum P w K hu) (pv 1) (pv 2) fun _ _ => rfl) pa_nil)))))))), ?_⟩
    have hul : us.length = rows.length := Paired.len hR
    have hrl := ok.len
    -- are_chances
    refine ⟨_, rfl, a, rfl, ⟨_, hL⟩, fun C hC => lc_it walk_list (fun i H' => Same H H' ∧ ∃ zs, H' C = some (.lst zs) ∧ zs.length = i ∧ FrL K H' zs ((rows.map Prod.snd).take i)) ⟨same_new hC, [], upd_same, rfl, .nil⟩ (fun i H' _ h' => h'.1.seq hL) ?_ ?_⟩
    · rintro i v H1 H' hi ⟨s1, zs, hCl, hzl, hpr⟩ ⟨rfl, hv⟩
      obtain ⟨r, hrr, t, oc, c, rfl, h1, h2, h3⟩ := Paired.at_ hR hv
      refine ⟨t, _, rfl, Same.seqT s1 h1, rfl, _, _, rfl, _, _, rfl, rfl, rfl, ⟨_, rfl, zs, hCl, by rw [hzl, sizeLine_eq]; omega, fun b ob eb => ?_, zs ++ [c], upd_same, by rw [List.length_append, hzl]; rfl, ?_⟩⟩
      · rw [upd_ne (ne_of_none eb hC)]
        exact s1 _ _ eb
      · rw [List.take_add_one, List.getElem?_map, hrr]
        have tt : Ts H' (upd H' C (.lst (zs ++ [c]))) := ts_lst hCl
        exact pair_snoc (L2.Paired.mapP hpr fun _ _ q => q.ts tt) ((h3.same s1).ts tt)
    rintro H1 ⟨s1, zs, hCl, hzl, hpr⟩
    rw [hul, List.take_of_length_le (by rw [List.length_map]; exact Nat.le_refl _)] at hpr
    refine ⟨C, zs, rows.map Prod.snd, 169, rfl, SqL.of hCl, hpr, fun x hx => ?_, fun x hx => ?_, ok.one, by rw [List.length_map]; omega, by decide, fun H2 s2 => ?_⟩
    · obtain ⟨r, hr1, rfl⟩ := List.mem_map.mp hx
      exact ok.sz r hr1
    · obtain ⟨r, hr1, rfl⟩ := List.mem_map.mp hx
      exact Rat.le_of_lt (ok.pos r hr1)
    refine ⟨true, rfl, ?_⟩
    refine iteF ?_
    have s12 := s1.trans s2
    -- sums
    refine fun D hD => ?_
    have hD0 : H D = none := s12.free hD
    refine ⟨_, rfl, a, rfl, ⟨_, (s12.trans (same_new hD)).seq hL⟩, for_it walk_list (fun i σ H' => ∃ (o2 o3 : Option V) (xs : SE), σ = [some (.ref a), some (.ref D), o2, o3, none] ∧ Same H H' ∧ H' D = some (sumO P w D xs) ∧ SumAt K H' xs (accQ (rows.take i)))
      ⟨none, none, [], rfl, s12.trans (same_new hD), upd_same, .nil⟩ (fun i σ H' _ ⟨_, _, _, _, h', _⟩ => h'.seq hL) ?_ ?_⟩
    · rintro i v σ H3 H' hi ⟨o2, o3, xs, rfl, s3, hDl, hS⟩ ⟨rfl, hv⟩
      obtain ⟨r, hrr, t, oc, c, rfl, h1, h2, h3⟩ := Paired.at_ hR hv
      have hm := List.mem_of_getElem? hrr
      obtain ⟨ocb, ovs, rfl, _⟩ := id h2
      have htk : rows.take (i + 1) = rows.take i ++ [r] := by rw [List.take_add_one, hrr]; rfl
      have hlt : (rows.take i).length = i := by rw [List.length_take]; omega
      have hxl : xs.length = (accQ (rows.take i)).length := Paired.len hS
      have hal := accQ_len (rows.take i)
      have hvs : Sz (valQ (accQ (rows.take i)) r.1) (i * 170 + 1) := by
        unfold valQ
        cases q : (accQ (rows.take i)).find? fun y => decide (y.1 = r.1) with
        | none => exact sz0.mono (by omega)
        | some y =>
          have z := accQ_sz (n := 169) (rows := rows.take i) (fun x hx => ok.sz x (List.mem_of_mem_take hx)) y (List.mem_of_find?_eq_some q)
          rw [hlt] at z
          exact z
      have e170 : i * 170 ≤ 3456 * 170 := Nat.mul_le_mul_right _ (by omega)
      refine ⟨t, _, rfl, Same.seqT s3 h1, rfl, _, _, rfl, _, _, rfl, rfl, ?_⟩
      refine ⟨_, rfl, D, xs, rfl, hDl, hS.keys, _, rfl, xs, ocb, r.1, hDl, hS.keys, rfl, h2.ts (.of_same s3), ?_⟩
      refine ⟨_, rfl, _, c, valQ (accQ (rows.take i)) r.1, r.2, _, 169, rfl, hS.val (T.t_NOTHING_ratios H' |> fun q => ⟨_, rfl, q⟩) r.1, h3.same s3, hvs, ok.sz r hm, by omega, by decide, fun t2 ht2 => ?_⟩
      have s4 := same_new (o := .tup [.int (valQ (accQ (rows.take i)) r.1 + r.2).num, .int (valQ (accQ (rows.take i)) r.1 + r.2).den]) ht2
      have hD4 := s4 _ _ hDl
      refine ⟨_, rfl, _, rfl, D, xs, ocb, r.1, t2, rfl, rfl, rfl, hD4, (hS.ts (.of_same s4)).keys, h2.ts (.of_same (s3.trans s4)), by rw [hxl, sizeLine_eq]; omega, ?_⟩
      have t5 : Ts (upd H' t2 (.tup [.int (valQ (accQ (rows.take i)) r.1 + r.2).num, .int (valQ (accQ (rows.take i)) r.1 + r.2).den])) (upd (upd H' t2 (.tup [.int (valQ (accQ (rows.take i)) r.1 + r.2).num, .int (valQ (accQ (rows.take i)) r.1 + r.2).den])) D (sumO P w D (sPut xs r.1 ocb t2))) := ts_ext hD4
      refine ⟨_, _, sPut xs r.1 ocb t2, rfl, fun b ob eb => ?_, upd_same, ?_⟩
      · rw [upd_ne (ne_of_none eb hD0)]
        exact s4 _ _ (s3 _ _ eb)
      · rw [htk, accQ_snoc]
        exact hS.put ((Ts.of_same s4).trans t5) (accQ_nodup _) (h2.ts ((Ts.of_same (s3.trans s4)).trans t5)) (Fr.ts Fr.new t5)
    -- the list
    rintro σ H3 ⟨o2, o3, xs, rfl, s3, hDl, hS⟩
    rw [hul, List.take_length] at hS
    have hxl : xs.length = (accQ rows).length := Paired.len hS
    have hal := accQ_len rows
    have hxm : ∀ x ∈ xs, x.1 ∈ rows.map Prod.fst := fun x hx => by
      have z : x.1 ∈ (accQ rows).map Prod.fst := by rw [← hS.fst]; exact List.mem_map.mpr ⟨x, hx, rfl⟩
      obtain ⟨⟨o', c'⟩, hy, e⟩ := List.mem_map.mp z
      rw [← e]
      exact ((accQ_mem rows _ _).mp hy).1
    refine ⟨_, rfl, D, xs, rfl, hDl, hS.keys, fun x hx z => ?_, by rw [hxl, sizeLine_eq]; omega, fun L hL => ?_⟩
    · obtain ⟨r, hr1, e⟩ := List.mem_map.mp (hxm x hx)
      exact ok.ne r hr1 (by rw [e]; exact z)
    have hsort : Paired (fun x y => x.1 = y.1 ∧ OutV K H3 (.ref x.2.1) x.1 ∧ Fr K H3 (.ref x.2.2) y.2) (xs.mergeSort (PySem.W.dataLe false fun x => outD x.1)) (lawL rows) := each_sort hS fun x y h x' y' h' => by
      show (!PySem.W.dataLt (outD x'.1) (outD x.1)) = !PySem.W.dataLt (outD y'.1) (outD y.1)
      rw [h.1, h'.1]
    have hsm : ∀ x ∈ xs.mergeSort (PySem.W.dataLe false fun x => outD x.1), x ∈ xs := fun x hx => (List.mergeSort_perm _ _).mem_iff.mp hx
    have hym : ∀ y ∈ lawL rows, y ∈ accQ rows := fun y hy => (List.mergeSort_perm _ _).mem_iff.mp hy
    have hnd : (xs.map (·.1)).Nodup := by rw [hS.fst]; exact accQ_nodup rows
    have hat : ∀ x ∈ xs, sAt xs x.1 = some x.2.2 := by
      clear hsort hsm hxm hxl hS hDl
      intro x hx
      unfold sAt
      induction xs with
      | nil => cases hx
      | cons z xs ih =>
        rw [List.map_cons, List.nodup_cons] at hnd
        rw [List.find?_cons]
        rcases List.mem_cons.mp hx with e | e
        · rw [← e, decide_eq_true rfl]
          rfl
        · rw [decide_eq_false fun q => hnd.1 (by rw [q]; exact List.mem_map.mpr ⟨x, e, rfl⟩)]
          exact ih hnd.2 e
    generalize hsl : xs.mergeSort (PySem.W.dataLe false fun x => outD x.1) = sl at hsort hsm hL ⊢
    have hsll : sl.length = xs.length := by rw [← hsl, List.length_mergeSort]
    have s4 := same_new (o := .lst (sl.map fun x => V.ref x.2.1)) hL
    refine ⟨L, rfl, ⟨_, SqL.of upd_same⟩, fun E2 hE => lc_it walk_list (fun i H' => Same (upd H3 L (.lst (sl.map fun x => V.ref x.2.1))) H' ∧ ∃ zs, H' E2 = some (.lst zs) ∧ zs.length = i ∧ RowL K H' zs ((lawL rows).take i)) ⟨same_new hE, [], upd_same, rfl, .nil⟩ (fun i H' _ h' => SqL.of (h'.1 _ _ upd_same)) ?_ ?_⟩
    · rintro i v H4 H' hi ⟨s5, zs, hEl, hzl, hpr⟩ ⟨rfl, hv⟩
      obtain ⟨x, hx, rfl⟩ := map_at hv
      have hxs := hsm x (List.mem_of_getElem? hx)
      have s45 := s4.trans s5
      obtain ⟨y, hy, e1, e2, e3⟩ := Paired.at_ hsort hx
      have hyp := accQ_pos ok.pos y (hym y (List.mem_of_getElem? hy))
      have hS5 := hS.ts (.of_same s45)
      refine ⟨rfl, ⟨_, rfl, _, rfl, D, xs, x.2.1, x.1, x.2.2, rfl, rfl, s45 _ _ hDl, hS5.keys, e2.ts (.of_same s45), hat x hxs, ?_⟩⟩
      refine ⟨_, _, (e3.same s45).dp, (fr_nothing T H').dp, fr_shaped _ _, fr_shaped _ _, ?_⟩
      have ene : PyData.eqv (.tuple [.int y.2.num, .int y.2.den]) (.tuple [.int (0 : Rat).num, .int (0 : Rat).den]) = false := by
        have hn : y.2.num ≠ 0 := fun z => by
          have : y.2 = 0 := Rat.num_eq_zero.mp z
          rw [this] at hyp
          exact absurd hyp (by decide)
        simp [PyData.eqv, PyData.eqvAll, hn]
      rw [ene]
      refine ⟨true, rfl, ?_⟩
      refine iteT ?_
      refine ⟨_, rfl, _, rfl, _, rfl, D, xs, x.2.1, x.1, x.2.2, rfl, rfl, s45 _ _ hDl, hS5.keys, e2.ts (.of_same s45), hat x hxs, (by show 2 ≤ sizeLine; decide), fun t ht => ?_⟩
      have s6 := same_new (o := .tup [.ref x.2.1, .ref x.2.2]) ht
      refine ⟨zs, s6 _ _ hEl, by rw [hzl, sizeLine_eq]; rw [List.length_map] at hi; omega, fun b ob eb => ?_, zs ++ [.ref t], upd_same, by rw [List.length_append, hzl]; rfl, ?_⟩
      · rw [upd_ne (ne_of_none eb hE)]
        exact s6 _ _ (s5 _ _ eb)
      · have t7 : Ts (upd H' t (.tup [.ref x.2.1, .ref x.2.2])) (upd (upd H' t (.tup [.ref x.2.1, .ref x.2.2])) E2 (.lst (zs ++ [.ref t]))) := ts_lst (s6 _ _ hEl)
        rw [List.take_add_one, hy]
        have t67 := (Ts.of_same s6).trans t7
        exact pair_snoc (hpr.ts t67) ⟨t, _, _, rfl, t7.seqT (SqT.of upd_same), by rw [← e1]; exact (e2.ts (.of_same s45)).ts t67, (e3.same s45).ts t67⟩
    · rintro H4 ⟨s5, zs, hEl, hzl, hpr⟩
      have hll : (sl.map fun x => V.ref x.2.1).length = (lawL rows).length := by rw [List.length_map]; exact Paired.len hsort
      rw [hll, List.take_length] at hpr
      exact k H4 E2 zs ((s3.trans s4).trans s5) ((s3.trans s4).free hE) hEl hpr
end
end Sam

set_option maxHeartbeats 4000000
set_option pp.maxSteps 600
namespace Sam
open PySem PySem.Spec PyProof.Rows L2
def spGath (K : PySem.W.Frag) : Sp := fun vs H Q _ => ∃ (d : Dc) (Y : Addr → Prop) (e : ES) (op : Bool) (rows : List RowQ), vs = [.ref d.p] ∧ ExAt K d Y H e op true rows ∧ RowsOk rows ∧ ∀ (H' : Hp) (l : Addr) (zs : List V), Same H H' → H l = none → H' l = some (.lst zs) → RowL K H' zs (lawL rows) → Q (.ref l) H'
def spPlain (K : PySem.W.Frag) : Sp := fun vs H Q _ => ∃ (t : Addr) (zs : List V) (ss : List Smp), vs = [.ref t] ∧ SqT K H t zs ∧ Paired (ViewV K H) zs ss ∧ (∀ s ∈ ss, (∀ x ∈ s.kept, ItAt K H x) ∧ s.kept.length ≤ 100) ∧ ss.length ≤ 100 ∧ ∀ (v : V) (H' : Hp), Same H H' → OutV K H' v (outOf ss) → Q v H'
section
variable {P : Program} {w : World} {K : PySem.W.Frag} {mg : Str → Option Value} {base : Heap}
theorem ok_gathered (T : Tx K mg) : CalM P w K mg base 6 (CE K) "gathered" ["self"] (spGath K) := by
  obtain ⟨fd, F⟩ := T.d_Explorer_gathered
  refine ⟨T.c_Explorer, _, fd, T.m_Explorer_gathered, F.binds (ps := ["self"]) fun _ _ _ _ _ _ us hl => match us, hl with | [_], _ => rfl, F.ok sc_Explorer_gathered (fun vs H Q E h => ?_) (fun cdv A outer s H vs Q E hr h => ?_)⟩
  · obtain ⟨d, Y, e, op, rows, rfl, _⟩ := h
    rfl
  · obtain ⟨d, Y, e, op, rows, rfl, ⟨dx, ch, ps, rs, X⟩, ok, k⟩ := h
    have cl := T.c_Explorer
    refine ⟨_, pss_cons (ps_if (pt_not (pt_val (pe_fld (pv 0) rfl))) pss_never pss_nil) (pss_one (ps_ret (pe_f (ok_law_from T) hr rfl (pa_cons (pe_fld (pv 0) rfl) pa_nil)))), ?_⟩
    refine ⟨_, rfl, d.p, _, dx, _, _, rfl, X.ins, cl, T.n_Explorer_is_over, ex_ov _ _ _ _ _ _ _, true, rfl, ?_⟩
    refine iteF ?_
    exact ⟨_, rfl, d.p, _, dx, _, _, rfl, X.ins, cl, T.n_Explorer_rows, ex_rows _ _ _ _ _ _ _, d.rw, rs, rows, rfl, SqL.of X.rws, X.rowl, ok, k⟩
theorem ok_l_plain (T : Tx K mg) : Cal P w K mg base 1 "_law_plain" ["_law_views"] (spPlain K) := by
  obtain ⟨fd, F⟩ := T.d_l_plain
  refine ⟨_, fd, T.g_law_plain, F.kp, F.binds (ps := ["_law_views"]) fun _ _ _ _ _ _ us hl => match us, hl with | [_], _ => rfl, F.ok sc_l_plain (fun vs H Q E h => ?_) (fun cdv A outer s H vs Q E hr h => ?_)⟩
  · obtain ⟨t, zs, ss, rfl, _⟩ := h
    rfl
  · obtain ⟨t, zs, ss, rfl, ht, hv, hi, hl, k⟩ := h
    have nd := sc_l_plain.nd
    refine ⟨_, pss_cons (ps_set (i := 1) nd rfl (.inl rfl) (pe_lst pa_nil))
      (pss_cons (ps_for PassesOwn.never rfl (pi_tup (pv 0)) (pg_name (i := 2) nd rfl (.inl rfl))
        (pss_one (ps_expr (pe_bm PySem.F.plainAttrs_list PySem.F.slot_list_append PySem.F.type_list_append mt_append (pv 1) (pa_cons (pe_tup (pa_cons (pe_ix ix_tup (pv 2) pe_int fun _ _ => rfl)
          (pa_cons (pe_callTy call_tuple_of (by rfl) T.f_tuple (by decide +kernel) (pa_cons
            (pe_lc (own := [("_law_item", 3)]) (g := gName 3) (tt := tYes) rfl nd (pi_tup (pe_ix ix_tup (pv 2) pe_int fun _ _ => rfl)) (blkOk_by (N := ["_law_views", "_law_found", "_law_view", "_law_item"]) (sc := defScope s_l_plain) (by decide +kernel))
              (fun _ _ _ _ _ => pg_name (i := 3) nd rfl (Or.inl rfl)) (fun _ _ _ _ _ => pts_nil) (fun _ _ _ _ _ => pe_ix (ixTK K rfl) (pv 3) pe_int fun _ _ => rfl)) pa_nil)) pa_nil))) pa_nil)))))
      (pss_one (ps_ret (pe_callTy call_tuple_of (by rfl) T.f_tuple (by decide +kernel) (pa_cons (pv 1) pa_nil))))), ?_⟩
    have hzl : zs.length = ss.length := Paired.len hv
    refine ⟨Nat.zero_le _, fun D hD => ?_⟩
    have s1 := same_new (o := .lst []) hD
    refine ⟨_, rfl, t, rfl, ⟨_, Same.seqT s1 ht⟩, for_it walk_tup (fun i σ H' => ∃ (o2 : Option V) (us : List V), σ = [some (.ref t), some (.ref D), o2, none] ∧ Same H H' ∧ H' D = some (.lst us) ∧ us.length = i ∧ Paired (fun v (y : Int × List Str) => ∃ t k, v = .ref t ∧ SqT K H' t [.int y.1, .ref k] ∧ SqT K H' k (y.2.map V.str)) us ((outOf ss).take i))
      ⟨none, [], rfl, s1, upd_same, rfl, .nil⟩ (fun i σ H' _ ⟨_, _, _, h', _⟩ => Same.seqT h' ht) ?_ ?_⟩
    · rintro i v σ H2 H' hi2 ⟨o2, us, rfl, s2, hDl, hul, hpr⟩ ⟨rfl, hv2⟩
      obtain ⟨s0, hs0, x0, t0, rfl, h1, h2⟩ := Paired.at_ hv hv2
      obtain ⟨hits, hk⟩ := hi s0 (List.mem_of_getElem? hs0)
      refine ⟨_, rfl, .inl ⟨rfl, _, SqL.of hDl⟩, _, rfl, x0, _, 1, _, rfl, rfl, Same.seqT s2 h1, atI1, _, rfl, x0, _, 2, _, rfl, rfl, Same.seqT s2 h1, atI2, ?_⟩
      refine ⟨t0, rfl, ⟨_, Same.seqT s2 h2⟩, fun L hL => lc_it walk_tup (fun j H3 => Same H' H3 ∧ H3 L = some (.lst (((s0.kept.map (·.key)).take j).map V.str))) ⟨same_new hL, upd_same⟩ (fun j H3 _ h' => Same.seqT (s2.trans h'.1) h2) ?_ ?_⟩
      · rintro j v H3 H4 hj ⟨s3, hLl⟩ ⟨rfl, hv3⟩
        obtain ⟨y, hy, rfl⟩ := map_at hv3
        refine ⟨rfl, ⟨_, rfl, y.a, _, 0, _, rfl, rfl, (hits y (List.mem_of_getElem? hy)).ts (.of_same (s2.trans s3)), atI0, _, hLl, ?_, fun b ob eb => ?_, ?_⟩⟩
        · rw [List.length_map, List.length_take, List.length_map]
          exact len_lt (Nat.le_trans (Nat.min_le_right _ _) hk)
        · rw [upd_ne (ne_of_none eb hL)]
          exact s3 _ _ eb
        · rw [upd_same, List.take_add_one, List.getElem?_map, hy, List.map_append]
          rfl
      · rintro H3 ⟨s3, hLl⟩
        rw [List.length_map, List.take_of_length_le (by rw [List.length_map]; exact Nat.le_refl _)] at hLl
        refine ⟨L, _, rfl, .inl ⟨SqL.of hLl, fun u hu => ⟨(by show 2 ≤ sizeLine; decide), fun q hq => ?_⟩⟩⟩
        have s4 := same_new (o := .tup ((s0.kept.map (·.key)).map V.str)) hu
        have s5 := same_new (o := .tup [.int s0.tot, .ref u]) hq
        have s35 := (s3.trans s4).trans s5
        have hD5 := s35 _ _ hDl
        refine ⟨D, us, _, rfl, rfl, hD5, by rw [hul, sizeLine_eq]; omega, ?_⟩
        generalize hH5 : upd (upd H3 u (.tup ((s0.kept.map (·.key)).map V.str))) q (.tup [.int s0.tot, .ref u]) = H5 at s5 s35 hD5 ⊢
        have hq5 : H5 q = some (.tup [.int s0.tot, .ref u]) := by rw [← hH5]; exact upd_same
        have hu5 : H5 u = some (.tup ((s0.kept.map (·.key)).map V.str)) := s5 _ _ upd_same
        have t6 : Ts H5 (upd H5 D (.lst (us ++ [.ref q]))) := ts_lst hD5
        refine ⟨_, us ++ [.ref q], rfl, fun b ob eb => ?_, upd_same, by rw [List.length_append, hul]; rfl, ?_⟩
        · rw [upd_ne (ne_of_none eb hD)]
          exact s35 _ _ (s2 _ _ eb)
        · have eo : (outOf ss)[i]? = some (s0.tot, s0.kept.map (·.key)) := by
            unfold outOf
            rw [List.getElem?_map, hs0]
            rfl
          rw [List.take_add_one, eo]
          have t56 := (Ts.of_same s35).trans t6
          exact pair_snoc (L2.Paired.mapP hpr fun _ _ ⟨t, k, e1, e2, e3⟩ => ⟨t, k, e1, t56.seqT e2, t56.seqT e3⟩) ⟨q, u, rfl, SqT.of (t6.tup _ _ hq5), SqT.of (t6.tup _ _ hu5)⟩
    · rintro σ H2 ⟨o2, us, rfl, s2, hDl, hul, hpr⟩
      rw [hzl, List.take_of_length_le (by unfold outOf; rw [List.length_map]; exact Nat.le_refl _)] at hpr
      refine ⟨_, rfl, D, us, rfl, .inl ⟨SqL.of hDl, fun u hu => ?_⟩⟩
      have s3 := same_new (o := .tup us) hu
      exact k (.ref u) _ (s2.trans s3) ⟨u, us, rfl, SqT.of upd_same, L2.Paired.mapP hpr fun _ _ ⟨t, k, e1, e2, e3⟩ => ⟨t, k, e1, Same.seqT s3 e2, Same.seqT s3 e3⟩⟩
end
/-! ### good, with the outcomes' keys -/
def OutOk (gs : List Str) (A : List Itm) (o : Outcome) : Prop := o.length = gs.length + 1 ∧ ∀ y ∈ o, ∀ k ∈ y.2, k ∈ A.map (·.key)
section
variable {gs : List Str} {rs : List Rule}
theorem out_ok (R : RsOk gs rs) {A : List Itm} {ss : List Smp} (h : StOk gs rs A ss) : OutOk gs A (outOf ss) := by
  refine ⟨by unfold outOf; rw [List.length_map, ← (SOks.len h).2, R.len], fun y hy k hk => ?_⟩
  obtain ⟨s, hs, rfl⟩ := List.mem_map.mp hy
  obtain ⟨i, hi, e⟩ := List.mem_iff_getElem.mp hs
  have hl := SOks.len h
  have hig : i ≤ gs.length := by have := R.len; omega
  obtain ⟨s', hs', ok⟩ := sok_at R h hig
  rw [List.getElem?_eq_getElem hi, e] at hs'
  cases hs'
  obtain ⟨x, hx, rfl⟩ := List.mem_map.mp hk
  exact List.mem_map.mpr ⟨x, (List.mem_filter.mp (ok.sub.mem hx)).1, rfl⟩
theorem good_one' (R : RsOk gs rs) (A : List Itm) (hA : ∀ x ∈ A, ItOk x) (hl : A.length ≤ 4) : Good (OutOk gs A) (wholeT srtI gs rs [A]) 168 := by
  obtain ⟨g, f⟩ := good_puts0 srtI_ok R A hA hl
  have e : wholeT srtI gs rs [A] = (putsT srtI gs rs (empties rs) A).bind fun ss => .ret (outOf ss) := by
    show (((putsT srtI gs rs (empties rs) A).bind fun ss => .ret [ss]).bind _) = _
    rw [Tr.bind_assoc]
    rfl
  rw [e]
  exact (Good.bind (b' := 0) (f := fun ss => .ret (outOf ss)) (S := OutOk gs A) (fun ss h => out_ok R h) g).mono (by omega)
theorem good_two' (R : RsOk gs rs) (A B : List Itm) (hA : ∀ x ∈ A, ItOk x) (hB : ∀ x ∈ B, ItOk x) (hl : A.length + B.length ≤ 4) : Good (OutOk gs (A ++ B)) (wholeT srtI gs rs [A, B]) 168 := by
  obtain ⟨g1, f1⟩ := good_puts0 srtI_ok R A hA (by omega)
  obtain ⟨g2, f2⟩ := good_puts0 srtI_ok R B hB (by omega)
  have e : wholeT srtI gs rs [A, B] = (putsT srtI gs rs (empties rs) A).bind fun ss => (putsT srtI gs rs (empties rs) B).bind fun ts => (zipT srtI ss ts).bind fun us => .ret (outOf us) := by
    show (((putsT srtI gs rs (empties rs) A).bind fun ss => ((putsT srtI gs rs (empties rs) B).bind fun ts => .ret [ts]).bind fun l => .ret (ss :: l)).bind _) = _
    rw [Tr.bind_assoc]
    congr 1
    funext ss
    rw [Tr.bind_assoc, Tr.bind_assoc]
    congr 1
    funext ts
    show ((zipT srtI ss ts).bind fun us => .ret us).bind _ = _
    rw [Tr.bind_assoc]
    rfl
  rw [e]
  refine (Good.bind (b' := 24 * B.length + 72) (fun ss h1 => Good.bind (b' := 72) (fun ts h2 => ?_) g2) g1).mono (by omega)
  exact Good.bind (b' := 0) (f := fun us => .ret (outOf us)) (S := OutOk gs (A ++ B)) (fun us h => out_ok R h) (good_zip' srtI_ok R h1 h2 hA hB hl).1
end
end Sam

set_option maxHeartbeats 4000000
set_option pp.maxSteps 600
namespace Sam
open PySem PySem.Spec PyProof.Rows L2
/-! ### the law, gathered: what is needed of the plain side -/
def rowsT (t : Tr Outcome) : List RowQ := (leaves t).map fun l => (l.2, chs 1 l.1)
theorem rows_ok {gs : List Str} {A : List Itm} {t : Tr Outcome} (g : Good (OutOk gs A) t 168) (f : Few t 3456) : RowsOk (rowsT t) := by
  refine ⟨by unfold rowsT; rw [List.length_map]; exact f, fun r hr => ?_, fun r hr => ?_, fun r hr => ?_, ?_⟩
  · obtain ⟨l, hl, rfl⟩ := List.mem_map.mp hr
    exact (leaf_ok t g l hl).2.2
  · obtain ⟨l, hl, rfl⟩ := List.mem_map.mp hr
    exact (leaf_ok t g l hl).2.1
  · obtain ⟨l, hl, rfl⟩ := List.mem_map.mp hr
    intro z
    have z : l.2 = [] := z
    have q := (leaf_ok t g l hl).1.1
    rw [z] at q
    simp at q
  · have e := ev_one t g
    rw [ev_leaves t g] at e
    unfold rowsT
    rw [List.map_map, qsum_sm]
    refine Eq.trans ?_ e
    refine sm_congr fun l _ => ?_
    show chs 1 l.1 = chs 1 l.1 * 1
    grind
theorem pr_rows {gs : List Str} {A : List Itm} {t : Tr Outcome} (g : Good (OutOk gs A) t 168) (o : Outcome) : pr (rowsT t) o = ev t fun x => if x = o then 1 else 0 := by
  rw [ev_leaves t g]
  unfold pr rowsT
  rw [sm_map]
  refine sm_congr fun l _ => ?_
  show (if l.2 = o then chs 1 l.1 else 0) = chs 1 l.1 * if l.2 = o then 1 else 0
  split <;> grind
theorem sz1 : Sz 1 1 := ⟨by decide, by decide⟩
/-- one turn of the explorer -/
theorem turn_run {gs : List Str} {A : List Itm} {t : Tr Outcome} (g : Good (OutOk gs A) t 168) {p1 : Path} (ha : Along t p1) (hl : p1.length ≤ 168) : Fit t ⟨p1, 0, 1⟩ ∧ run t ⟨p1, 0, 1⟩ = ((fin t p1).2, ⟨(fin t p1).1, (fin t p1).1.length, chs 1 (fin t p1).1⟩) := by
  refine ⟨fit_of t 168 1 ⟨p1, 0, 1⟩ g sz1 (by decide) (by show p1.length + 168 ≤ 1000; omega) (Nat.zero_le _) ha, ?_⟩
  have z := run_fin t ⟨p1, 0, 1⟩ (Nat.zero_le _) ha
  rw [z]
  show _ = _
  simp
/-- what the turns find -/
structure TurnAt (t : Tr Outcome) (i : Nat) (p : Path) : Prop where
  le : i ≤ (leaves t).length
  path : (i = 0 ∧ p = []) ∨ ∃ l, i ≠ 0 ∧ (leaves t)[i - 1]? = some l ∧ p = l.1
theorem turn_next {gs : List Str} {A : List Itm} {t : Tr Outcome} (g : Good (OutOk gs A) t 168) {i : Nat} {p : Path} (h : TurnAt t i p) : p.length ≤ 168 ∧
    ((∀ p1, ((i = 0 ∧ p1 = p) ∨ (i ≠ 0 ∧ adv p = some p1)) → Along t p1 ∧ p1.length ≤ 168 ∧ (leaves t)[i]? = some (fin t p1)) ∧ (i ≠ 0 → adv p = none → i = (leaves t).length)) := by
  obtain ⟨⟨r, hL⟩, hk⟩ := leaves_lk t g
  rcases h.path with ⟨rfl, rfl⟩ | ⟨l, hi, hl, rfl⟩
  · refine ⟨Nat.zero_le _, fun p1 q => ?_, fun z => absurd rfl z⟩
    rcases q with ⟨_, rfl⟩ | ⟨z, _⟩
    · exact ⟨along_nil t, Nat.zero_le _, by rw [hL]; rfl⟩
    · exact absurd rfl z
  · have hll := leaf_len t g l (List.mem_of_getElem? hl)
    refine ⟨hll, fun p1 q => ?_, fun _ hn => ?_⟩
    · rcases q with ⟨z, _⟩ | ⟨_, q⟩
      · exact absurd z hi
      · rcases lk_next t _ hk _ l hl with ⟨z, _⟩ | ⟨p', z1, z2, z3⟩
        · rw [z] at q
          cases q
        · rw [z1] at q
          cases q
          exact ⟨z2, Nat.le_trans (adv_len _ _ z1) hll, by rw [show i - 1 + 1 = i by omega] at z3; exact z3⟩
    · rcases lk_next t _ hk _ l hl with ⟨_, z⟩ | ⟨p', z1, _⟩
      · omega
      · rw [z1] at hn
        cases hn
theorem turn_step {t : Tr Outcome} {i : Nat} {p1 : Path} (h : (leaves t)[i]? = some (fin t p1)) : TurnAt t (i + 1) (fin t p1).1 ∧ (rowsT t).take (i + 1) = (rowsT t).take i ++ [((fin t p1).2, chs 1 (fin t p1).1)] := by
  have hi := (List.getElem?_eq_some_iff.mp h).1
  refine ⟨⟨hi, .inr ⟨_, by omega, h, rfl⟩⟩, ?_⟩
  unfold rowsT
  rw [List.take_add_one, List.getElem?_map, h]
  rfl
/-! ### the parts' names -/
def pS (k : Nat) : Str := ("p" : Str) ++ Str.ofString (toString (k : Int))
theorem pS_ne : pS 1 ≠ pS 0 := by decide +kernel
theorem pS_ok {k : Nat} (h : k < 2) : ((k : Int).natAbs.log2 < 1920) ∧ ("p" : Str).length + (Str.ofString (toString (k : Int))).length ≤ sizeLine := by
  match k, h with
  | 0, _ => exact ⟨by decide +kernel, by rw [sizeLine_eq]; decide +kernel⟩
  | 1, _ => exact ⟨by decide +kernel, by rw [sizeLine_eq]; decide +kernel⟩
/-! ### the stores of a turn -/
def StV (K : PySem.W.Frag) (P : Program) (w : World) (N : Addr → Prop) (o : V) (ks gs : List Str) (rs : List Rule) (kvs : List (Key × V)) (H : Hp) (v : V) (A : List Itm) (k : Nat) (ss : List Smp) : Prop :=
  ∃ a dx p pdx D pl sd us, v = .ref a ∧ StA K P w N H a dx p pdx D pl sd o ks gs rs kvs [pS k] us ss ∧ StOk gs rs A ss
structure Sts (K : PySem.W.Frag) (P : Program) (w : World) (N : Addr → Prop) (o : V) (ks gs : List Str) (rs : List Rule) (kvs : List (Key × V)) (H : Hp) (ls : List (List Itm)) (us : List V) (acc : List (List Smp)) : Prop where
  len : us.length = acc.length
  at_ : ∀ i A, i < acc.length → ls[i]? = some A → ∃ v ss, us[i]? = some v ∧ acc[i]? = some ss ∧ StV K P w N o ks gs rs kvs H v A i ss
section
variable {K : PySem.W.Frag} {P : Program} {w : World} {N : Addr → Prop} {o : V} {ks gs : List Str} {rs : List Rule} {kvs : List (Key × V)} {H H' : Hp} {ls : List (List Itm)} {us : List V} {acc : List (List Smp)} {d : Dc}
theorem Sts.kp (h : Sts K P w N o ks gs rs kvs H ls us acc) (k : Kp d H H') (hN : ∀ b, d.X b → N b) : Sts K P w N o ks gs rs kvs H' ls us acc :=
  ⟨h.len, fun i A hi hA => let ⟨v, ss, h1, h2, a, dx, p, pdx, D, pl, sd, us', e, S, ok⟩ := h.at_ i A hi hA; ⟨v, ss, h1, h2, a, dx, p, pdx, D, pl, sd, us', e, S.kp k hN, ok⟩⟩
theorem Sts.same (h : Sts K P w N o ks gs rs kvs H ls us acc) (k : Same H H') : Sts K P w N o ks gs rs kvs H' ls us acc :=
  ⟨h.len, fun i A hi hA => let ⟨v, ss, h1, h2, a, dx, p, pdx, D, pl, sd, us', e, S, ok⟩ := h.at_ i A hi hA; ⟨v, ss, h1, h2, a, dx, p, pdx, D, pl, sd, us', e, S.same k, ok⟩⟩
theorem Sts.add (h : Sts K P w N o ks gs rs kvs H ls us acc) {q : Addr} (hq : N q) {u : HO} (t : Ts H (L2.upd H q u)) {v : V} {A : List Itm} {ss : List Smp} (hA : ls[acc.length]? = some A) (hv : StV K P w N o ks gs rs kvs H v A acc.length ss) :
    Sts K P w N o ks gs rs kvs (L2.upd H q u) ls (us ++ [v]) (acc ++ [ss]) := by
  refine ⟨by rw [List.length_append, List.length_append, h.len]; rfl, fun i A' hi hA' => ?_⟩
  rw [List.length_append, List.length_singleton] at hi
  by_cases z : i < acc.length
  · obtain ⟨v', ss', h1, h2, a, dx, p, pdx, D, pl, sd, us', e, S, ok⟩ := h.at_ i A' z hA'
    exact ⟨v', ss', by rw [List.getElem?_append_left (by rw [h.len]; exact z)]; exact h1, by rw [List.getElem?_append_left z]; exact h2, a, dx, p, pdx, D, pl, sd, us', e, S.nn hq t, ok⟩
  · have e : i = acc.length := by omega
    subst e
    rw [hA] at hA'
    cases hA'
    obtain ⟨a, dx, p, pdx, D, pl, sd, us', e, S, ok⟩ := hv
    exact ⟨v, ss, by rw [List.getElem?_append_right (by rw [h.len]; exact Nat.le_refl _), h.len, Nat.sub_self]; rfl, by rw [List.getElem?_append_right (Nat.le_refl _), Nat.sub_self]; rfl, a, dx, p, pdx, D, pl, sd, us', e, S.nn hq t, ok⟩
end
theorem cut1 (us : List V) : cutV us (some 1) none = us.drop 1 := by
  unfold cutV
  rw [HT.sIx_none, show HT.sIx us.length 0 (some (1 : Int)) = min 1 us.length from HT.sIx_nat us.length 0 1]
  rw [List.take_of_length_le (by rw [List.length_drop]; exact Nat.le_refl _)]
  by_cases h : us.length = 0
  · rw [List.eq_nil_of_length_eq_zero h]
    rfl
  · rw [Nat.min_eq_left (by omega)]
end Sam

set_option maxHeartbeats 8000000
set_option pp.maxSteps 600
namespace Sam
open PySem PySem.Spec PyProof.Rows L2
def spGat (K : PySem.W.Frag) : Sp := fun vs H Q _ => ∃ (D ll : Addr) (o : V) (ks gs : List Str) (rs : List Rule) (kvs : List (Key × V)) (las : List Addr) (ls : List (List Itm)), vs = [.ref D, o, .ref ll] ∧ RuA K H D o ks gs rs kvs ∧ SqL K H ll (las.map V.ref) ∧ Paired (fun la A => SqL K H la (A.map itR)) las ls ∧ 1 ≤ ls.length ∧ ls.length ≤ 2 ∧
  (∀ A ∈ ls, ∀ x ∈ A, ItAt K H x ∧ ItOk x) ∧ ls.flatten.length ≤ 4 ∧ (ls.flatten.map (·.key)).Nodup ∧ Good (OutOk gs ls.flatten) (wholeT srtI gs rs ls) 168 ∧ Few (wholeT srtI gs rs ls) 3456 ∧
  ∀ (H' : Hp) (l : Addr) (zs : List V), Same H H' → H l = none → H' l = some (.lst zs) → RowL K H' zs (lawL (rowsT (wholeT srtI gs rs ls))) → Q (.ref l) H'
theorem at_pair {α β : Type} {F : α → β → Prop} : ∀ {xs : List α} {ys : List β} {i : Nat} {y : β}, Paired F xs ys → ys[i]? = some y → ∃ x, xs[i]? = some x ∧ F x y
  | _, _, i, y, .nil, h => by simp at h
  | _, _, 0, y, .cons r _, h => by
    cases (Option.some.inj h)
    exact ⟨_, rfl, r⟩
  | _, _, i + 1, y, .cons _ t, h => by
    obtain ⟨x, h1, h2⟩ := at_pair (i := i) (y := y) t (by simpa using h)
    exact ⟨x, by simpa using h1, h2⟩
theorem flat_take {α : Type} (ls : List (List α)) (n : Nat) : (ls.take n).flatten.length ≤ ls.flatten.length ∧ (ls.take n).flatten.Sublist ls.flatten := by
  have e : ls.flatten = (ls.take n).flatten ++ (ls.drop n).flatten := by rw [← List.flatten_append, List.take_append_drop]
  exact ⟨by rw [e, List.length_append]; omega, by rw [e]; exact List.sublist_append_left _ _⟩
theorem flat_snoc {α : Type} {ls : List (List α)} {n : Nat} {A : List α} (h : ls[n]? = some A) : (ls.take (n + 1)).flatten = (ls.take n).flatten ++ A := by
  rw [List.take_add_one, h, List.flatten_append]
  simp
theorem flat_len_at {α : Type} : ∀ {ls : List (List α)} {i : Nat} {A : List α}, ls[i]? = some A → A.length ≤ ls.flatten.length ∧ A.Sublist ls.flatten
  | [], _, _, h => by simp at h
  | B :: ls, 0, A, h => by
    have e : B = A := by simpa using h
    subst e
    exact ⟨by rw [List.flatten_cons, List.length_append]; omega, by rw [List.flatten_cons]; exact List.sublist_append_left _ _⟩
  | B :: ls, i + 1, A, h => by
    obtain ⟨h1, h2⟩ := flat_len_at (ls := ls) (i := i) (A := A) (by simpa using h)
    exact ⟨by rw [List.flatten_cons, List.length_append]; omega, by rw [List.flatten_cons]; exact h2.trans (List.sublist_append_right _ _)⟩
section
variable {P : Program} {w : World} {K : PySem.W.Frag} {mg : Str → Option Value} {base : Heap}
theorem ok_l_gathered (T : Tx K mg) : Cal P w K mg base 8 "_law_gathered" ["_law_rules", "_law_others", "_law_lists"] (spGat K) := by
  obtain ⟨fd, F⟩ := T.d_l_gathered
  refine ⟨_, fd, T.g_law_gathered, F.kp, F.binds (ps := ["_law_rules", "_law_others", "_law_lists"]) fun _ _ _ _ _ _ us hl => match us, hl with | [_, _, _], _ => rfl, F.ok sc_l_gathered (fun vs H Q E h => ?_) (fun cdv A outer s H vs Q E hr h => ?_)⟩
  · obtain ⟨D, ll, o, ks, gs, rs, kvs, las, ls, rfl, _⟩ := h
    rfl
  · obtain ⟨D, ll, o, ks, gs, rs, kvs, las, ls, rfl, R, hll, hla, hn1, hn2, hit, hfl, hfn, hg, hfew, k⟩ := h
    have nd := sc_l_gathered.nd
    have cs := T.c_Store
    refine ⟨_, pss_cons (ps_set (i := 3) nd rfl (.inl rfl) (pe_mk0 (ok_ex_init T) hr rfl))
      (pss_cons (ps_for PassesOwn.never rfl (pi_range1 rfl T.f_range (pa_cons pe_int pa_nil)) (pg_name (i := 4) nd rfl (.inl rfl))
        (pss_cons (ps_if (pt_not (pt_val (pe_m0 (pv 3) (ok_begin T) hr))) (pss_one (ps_ret (pe_m0 (pv 3) (ok_gathered T) hr))) pss_nil)
        (pss_cons (ps_set (i := 5) nd rfl (.inl rfl) (pe_lst pa_nil))
        (pss_cons (ps_for PassesOwn.never rfl (pi_range1 rfl T.f_range (pa_cons (pe_callB call_len_seq (by rfl) T.f_len PySem.boot_len (pa_cons (pv 2) pa_nil)) pa_nil)) (pg_name (i := 6) nd rfl (.inl rfl))
          (pss_cons (ps_set (i := 7) nd rfl (.inl rfl) (pe_mk' (ok_store_init T) hr rfl (pa_cons (pe_mk' (ok_plan_init T) hr rfl (pa_cons (pv 0) (pa_cons (pv 1) pa_nil))) (pa_cons (pe_lst (pa_cons (pe_op op_add_str pe_str (pe_callTy call_str_int (by rfl) T.f_str (by decide +kernel) (pa_cons (pv 6) pa_nil))) pa_nil)) pa_nil))))
          (pss_cons (ps_for PassesOwn.never rfl (pi_list (pe_ix ix_list (pv 2) (pv 6) fun _ _ => rfl)) (pg_name (i := 8) nd rfl (.inl rfl))
            (pss_one (ps_expr (pe_m (pv 7) (ok_store_put T) hr (pa_cons (pv 8) (pa_cons (pv 3) pa_nil))))))
          (pss_one (ps_expr (pe_bm PySem.F.plainAttrs_list PySem.F.slot_list_append PySem.F.type_list_append mt_append (pv 5) (pa_cons (pv 7) pa_nil)))))))
        (pss_cons (ps_set (i := 9) nd rfl (.inl rfl) (pe_ix ix_list (pv 5) pe_int fun _ _ => rfl))
        (pss_cons (ps_for PassesOwn.never rfl (pi_list (pe_slice sl_list (pv 5) (po_some pe_int) po_none)) (pg_name (i := 7) nd rfl (.inl rfl))
          (pss_one (ps_set (i := 9) nd rfl (.inl rfl) (pe_m (pv 9) (ok_store_merged T) hr (pa_cons (pv 7) (pa_cons (pv 3) pa_nil))))))
        (pss_one (ps_expr (pe_m (pv 3) (ok_ex_end T) hr (pa_cons (pe_f (ok_l_plain T) hr rfl (pa_cons (pe_ix ix_tup (pe_m0 (pv 9) (ok_store_view T) hr) pe_int fun _ _ => rfl) pa_nil)) pa_nil))))))))))
      (pss_one (ps_ret pe_non))), ?_⟩
    -- the explorer
    refine fun p dxp hp hdxp hne => ⟨p, dxp, rfl, upd_same, fun l rw H1 hl hrw hk1 X1 => ⟨rfl, ?_⟩⟩
    have sm := made_same (C := CE K) hp hdxp hne
    have s1 : Same H H1 := fun b ob eb => hk1 b ob (sm b ob eb) (ne_of_none eb hp)
    have hdX : ∀ b ob, H b = some ob → ¬ Dc.X ⟨p, l, rw⟩ b := fun b ob eb z => by
      rcases z with z | z | z
      · exact ne_of_none eb hp z
      · exact ne_of_none eb (sm.free hl) z
      · exact ne_of_none eb (sm.free hrw) z
    generalize hd : (⟨p, l, rw⟩ : Dc) = d at X1 hdX
    have hdp : d.p = p := by rw [← hd]
    have sK : ∀ {H' : Hp}, Kp d H1 H' → Same H H' := fun {H'} kk b ob eb => kk.keep b ob (s1 b ob eb) (hdX b ob eb)
    generalize ht : wholeT srtI gs rs ls = t at hg hfew k
    have hrok := rows_ok hg hfew
    have hLl : (leaves t).length ≤ 3456 := hfew
    have hlal : las.length = ls.length := Paired.len hla
    refine ⟨20001, rfl, by decide, by decide, ?_⟩
    refine for_range (lo := 0) (n := 20001) (fun i σ H' => ∃ (o4 o5 o6 o7 o8 o9 : Option V) (e : ES), σ = [some (.ref D), some o, some (.ref ll), some (.ref d.p), o4, o5, o6, o7, o8, o9] ∧ Kp d H1 H' ∧ ExAt K d d.X H' e false false ((rowsT t).take i) ∧ TurnAt t i e.path)
      ⟨none, none, none, none, none, none, ⟨[], 0, 1⟩, by rw [hdp]; rfl, Kp.refl _, X1, Nat.zero_le _, .inl ⟨rfl, rfl⟩⟩ ?_ ?_
    · rintro i σ H' hi ⟨o4, o5, o6, o7, o8, o9, e, rfl, k2, X2, hT⟩
      obtain ⟨hel, hnx, hnn⟩ := turn_next hg hT
      have hrl : ((rowsT t).take i).length = i := by
        rw [List.length_take]
        unfold rowsT
        rw [List.length_map]
        have := hT.le
        omega
      have hr0 : ((rowsT t).take i = []) ↔ i = 0 := ⟨fun z => by rw [z] at hrl; exact hrl.symm, fun z => by rw [z]; rfl⟩
      obtain ⟨dxE, chE, psE, rsE, XE⟩ := id X2
      -- begin()
      refine ⟨_, rfl, d.p, dxE, _, rfl, XE.ins, ex_no _ _ _ _ _ _ _ _ (by decide +kernel), d, d.X, e, (rowsT t).take i, rfl, X2, by omega, fun _ _ z => by rw [hrl] at z; have := hT.le; omega, fun H3 k3 => ⟨fun p1 hp1 X3 => ?_, fun hn0 hadv X3 => ?_⟩⟩
      · refine ⟨true, rfl, ?_⟩
        refine iteF ?_
        obtain ⟨hal, hpl, hLi⟩ := hnx p1 (by
          rcases hp1 with ⟨z1, z2⟩ | ⟨z1, z2⟩
          · exact .inl ⟨hr0.mp z1, z2⟩
          · exact .inr ⟨fun z => z1 (hr0.mpr z), z2⟩)
        obtain ⟨hFit, hRun⟩ := turn_run hg hal hpl
        obtain ⟨hT', hrows⟩ := turn_step hLi
        rw [← ht] at hFit hRun
        have hFs := (fit_bind _ _ _).mp hFit
        have hRs := run_bind (storesT srtI gs rs ls) (fun l => match l with | [] => Tr.ret [] | ss :: r => (mergesT srtI ss r).bind fun us => .ret (outOf us)) ⟨p1, 0, 1⟩
        have hRun' : run ((storesT srtI gs rs ls).bind fun l => match l with | [] => Tr.ret [] | ss :: r => (mergesT srtI ss r).bind fun us => .ret (outOf us)) ⟨p1, 0, 1⟩ = ((fin t p1).2, ⟨(fin t p1).1, (fin t p1).1.length, chs 1 (fin t p1).1⟩) := by
          rw [← ht]
          exact hRun
        rw [hRs] at hRun'
        clear hRs hRun
        have k13 := k2.trans k3
        -- stores = []
        refine ⟨Nat.zero_le _, fun sl hsl => ?_⟩
        have X4 := X3.grow hsl (.lst [])
        have k14 := k13.trans (.new (u := .lst []) hsl)
        have hsl1 : H1 sl = none := k13.free hsl (X3.newX hsl)
        have hlX : ¬ d.X sl := X3.newX hsl
        have hll4 : SqL K (upd H3 sl (.lst [])) ll (las.map V.ref) := (sK k14).seq hll
        refine ⟨_, rfl, ll, _, rfl, .inl hll4, ((las.map V.ref).length : Int), rfl, by rw [List.length_map]; omega, by rw [List.length_map]; omega, ?_⟩
        rw [Int.toNat_natCast, List.length_map]
        have hFs1 := hFs.1
        have hFs2 := hFs.2
        clear hFs
        refine for_range (lo := 0) (n := las.length) (fun kk σ H' => ∃ (o6 o7 o8 : Option V) (us : List V) (acc : List (List Smp)) (ek : ES), σ = [some (.ref D), some o, some (.ref ll), some (.ref d.p), some (.int (0 + (i : Int))), some (.ref sl), o6, o7, o8, o9] ∧ Kp d H1 H' ∧ H' sl = some (.lst us) ∧ acc.length = kk ∧ Sts K P w (fun b => d.X b ∨ b = sl) o ks gs rs kvs H' ls us acc ∧
            ExAt K d (fun b => d.X b ∨ b = sl) H' ek true false ((rowsT t).take i) ∧ Fit (storesT srtI gs rs (ls.drop kk)) ek ∧ run (storesT srtI gs rs ls) ⟨p1, 0, 1⟩ = (acc ++ (run (storesT srtI gs rs (ls.drop kk)) ek).1, (run (storesT srtI gs rs (ls.drop kk)) ek).2))
          ⟨o6, o7, o8, [], [], _, rfl, k14, upd_same, rfl, ⟨rfl, fun i A hi => absurd hi (Nat.not_lt_zero i)⟩, X4, hFs1, rfl⟩ ?_ ?_
        · rintro kk σ H5 hkk ⟨o6, o7, o8, us, acc, ek, rfl, k5, hsl5, hacl, hSts, X5, hF5, hr5⟩
          rw [show (0 : Int) + (kk : Int) = (kk : Int) by omega]
          obtain ⟨A0, hA0⟩ : ∃ A0, ls[kk]? = some A0 := ⟨_, List.getElem?_eq_getElem (by omega)⟩
          obtain ⟨la, hla0, hlaA⟩ := at_pair hla hA0
          have hk2 : kk < 2 := by omega
          obtain ⟨hpo1, hpo2⟩ := pS_ok hk2
          have s5 := sK k5
          have R5 := R.same s5
          rw [drop_at hA0] at hF5 hr5
          have hF6 := (fit_bind _ _ _).mp hF5
          have hF7 := ((fit_bind _ _ _).mp hF6.2).1
          have hr6 : run (storesT srtI gs rs ls) ⟨p1, 0, 1⟩ = ((acc ++ [(run (putsT srtI gs rs (empties rs) A0) ek).1]) ++ (run (storesT srtI gs rs (ls.drop (kk + 1))) (run (putsT srtI gs rs (empties rs) A0) ek).2).1, (run (storesT srtI gs rs (ls.drop (kk + 1))) (run (putsT srtI gs rs (empties rs) A0) ek).2).2) := by
            rw [hr5]
            show (acc ++ (run ((putsT srtI gs rs (empties rs) A0).bind fun ss => (storesT srtI gs rs (ls.drop (kk + 1))).bind fun l => .ret (ss :: l)) ek).1, (run ((putsT srtI gs rs (empties rs) A0).bind fun ss => (storesT srtI gs rs (ls.drop (kk + 1))).bind fun l => .ret (ss :: l)) ek).2) = _
            rw [run_bind, run_bind, List.append_assoc]
            rfl
          clear hr5 hF5
          have hF6' := hF6.1
          -- store = Store(Plan(..), ['p' + str(k)])
          refine ⟨_, rfl, _, rfl, fun q dq hq hdq hne2 => ?_⟩
          have sm2 := made_same (C := CP K) hq hdq hne2
          refine ⟨q, dq, D, o, ks, gs, rs, kvs, rfl, upd_same, R5.same sm2, fun D' H6 hD' kA LA => ⟨rfl, ?_⟩⟩
          have s56 : Same H5 H6 := fun b ob eb => kA b ob (sm2 b ob eb) (ne_of_none eb hq)
          refine ⟨_, rfl, (kk : Int), rfl, hpo1, _, _, rfl, rfl, hpo2, (by show 1 ≤ sizeLine; decide), fun pl hpl => ?_⟩
          have s67 := same_new (o := .lst [.str (pS kk)]) hpl
          refine fun a dx ha hdx hne3 => ?_
          have sm3 := made_same (C := CS K) ha hdx hne3
          have s57 := s56.trans s67
          have s58' := s57.trans sm3
          have ha5 : H5 a = none := s57.free ha
          have nqa : q ≠ a := ne_of_none (s67 _ _ LA.ins) ha
          have npa : pl ≠ a := ne_of_none upd_same ha
          refine ⟨(fun b => d.X b ∨ b = sl), a, dx, q, dq, D', pl, o, ks, gs, rs, kvs, [pS kk], rfl, upd_same, (LA.same s67).same sm3, SqL.of (sm3 _ _ upd_same), (by show 1 ≤ 8; decide), (fun b hb => X5.newY (s58'.free hb)), X5.newY ha5, nqa, npa, fun H8 q' dq' D'' pl' sd ps' vs' kA2 hps hsd SA => ⟨rfl, ?_⟩⟩
          have hps1 : ps' = [pS kk] := hps.eq_singleton
          subst hps1
          have s58 : Same H5 H8 := fun b ob eb => kA2 b ob (s58' b ob eb) (ne_of_none eb ha5)
          have hsd5 : H5 sd = none := s58'.free hsd
          have k58 : Kp d H5 H8 := .of_same s58
          -- the items
          refine ⟨_, rfl, _, rfl, ll, _, _, _, rfl, rfl, (s5.trans s58).seq hll, atI_nat (by rw [List.getElem?_map, hla0]; rfl), la, rfl, ⟨_, (s5.trans s58).seq hlaA⟩, ?_⟩
          have hAl := flat_len_at hA0
          have hAn : (A0.map (·.key)).Nodup := hfn.sublist (hAl.2.map _)
          have hAit := hit A0 (List.mem_of_getElem? hA0)
          refine for_it walk_list (fun j σ H' => ∃ (o8 : Option V) (us' : List V) (ssj : List Smp) (ej : ES), σ = [some (.ref D), some o, some (.ref ll), some (.ref d.p), some (.int (0 + (i : Int))), some (.ref sl), some (.int (kk : Int)), some (.ref a), o8, o9] ∧ Kp d H5 H' ∧ StA K P w (fun b => d.X b ∨ b = sl) H' a dx q' dq' D'' pl' sd o ks gs rs kvs [pS kk] us' ssj ∧ StOk gs rs (A0.take j) ssj ∧
              ExAt K d (fun b => d.X b ∨ b = sl) H' ej true false ((rowsT t).take i) ∧ Fit (putsT srtI gs rs ssj (A0.drop j)) ej ∧ run (putsT srtI gs rs (empties rs) A0) ek = run (putsT srtI gs rs ssj (A0.drop j)) ej)
            ⟨o8, vs', empties rs, ek, rfl, k58, SA, stok_empty, X5.same s58, hF6', rfl⟩ (fun j σ H' _ ⟨_, _, _, _, _, kj, _⟩ => (sK (k5.trans kj)).seq hlaA) ?_ ?_
          · rintro j v σ H9 H' hj ⟨o8, us', ssj, ej, rfl, k9, S9, ok9, X9, hF9, hr9⟩ ⟨rfl, hv⟩
            obtain ⟨x, hx, rfl⟩ := map_at hv
            have hxm := List.mem_of_getElem? hx
            have hjl := (List.getElem?_eq_some_iff.mp hx).1
            have s09 := sK (k5.trans k9)
            have htk : A0.take (j + 1) = A0.take j ++ [x] := by rw [List.take_add_one, hx]; rfl
            rw [drop_at hx] at hF9 hr9
            have hF10 := (fit_bind _ _ _).mp hF9
            have hr10 : run (putsT srtI gs rs (empties rs) A0) ek = run (putsT srtI gs rs (run (putT srtI gs rs ssj x) ej).1 (A0.drop (j + 1))) (run (putT srtI gs rs ssj x) ej).2 := hr9.trans (run_bind _ _ _)
            have hAj : ∀ y ∈ A0.take j, ItOk y := fun y hy => (hAit y (List.mem_of_mem_take hy)).2
            have hjl3 : (A0.take j).length ≤ 3 := by
              rw [List.length_take]
              have := hAl.1
              omega
            have gp := (good_put srtI_ok S9.plan.ru.rok ok9 hAj hjl3 x (hAit x hxm).2).1
            have okn := good_run _ ej gp hF10.1
            rw [← htk] at okn
            refine ⟨_, rfl, a, dx, _, rfl, S9.ins, st_no _ _ _ _ (by decide +kernel), _, rfl, _, rfl, d, _, a, dx, q', dq', D'', pl', sd, o, ks, gs, rs, kvs, [pS kk], us', ssj, x, A0.take j, ej, (rowsT t).take i, rfl, S9, (hAit x hxm).1.ts (.of_same s09), (hAit x hxm).2, ok9, hAj, hjl3, by rw [← htk]; exact hAn.sublist ((List.take_sublist _ _).map _), X9, hF10.1, fun H10 us'' kq SA' X' => ?_⟩
            exact ⟨_, us'', _, _, rfl, k9.then_q kq hsd5, SA', okn, X', hF10.2, hr10⟩
          · rintro σ H9 ⟨o8, us', ssj, ej, rfl, k9, S9, ok9, X9, hF9, hr9⟩
            rw [List.length_map] at ok9 hF9 hr9
            rw [List.take_length] at ok9
            rw [List.drop_length] at hr9
            have hr9' : run (putsT srtI gs rs (empties rs) A0) ek = (ssj, ej) := hr9
            rw [hr9'] at hr6 hF7
            -- stores.append(store)
            have hslY : (fun b => d.X b ∨ b = sl) sl := .inr rfl
            have hsl9 : H9 sl = some (.lst us) := k9.keep _ _ hsl5 hlX
            refine ⟨_, rfl, .inl ⟨rfl, _, SqL.of hsl9⟩, _, rfl, sl, us, _, rfl, rfl, hsl9, (by rw [hSts.len, sizeLine_eq]; omega), ?_⟩
            have tt : Ts H9 (upd H9 sl (.lst (us ++ [.ref a]))) := ts_lst hsl9
            have hSts9 := (hSts.kp k9 fun b hb => .inl hb).add (q := sl) hslY (u := .lst (us ++ [.ref a])) tt (v := .ref a) (A := A0) (ss := ssj) (by rw [hacl]; exact hA0) (by rw [hacl]; exact ⟨a, dx, q', dq', D'', pl', sd, us', rfl, S9, ok9⟩)
            exact ⟨_, _, _, us ++ [.ref a], acc ++ [ssj], ej, rfl, (k5.trans k9).mine hsl1, upd_same, by rw [List.length_append, hacl]; rfl, hSts9, X9.upd hlX hslY tt, hF7, hr6⟩
        · rintro σ H5 ⟨o6, o7, o8, us, acc, ek, rfl, k5, hsl5, hacl, hSts, X5, hF5, hr5⟩
          have hdr : ls.drop las.length = [] := List.drop_eq_nil_of_le (by omega)
          rw [hdr] at hr5
          have hr6 : run (storesT srtI gs rs ls) ⟨p1, 0, 1⟩ = (acc, ek) := by
            rw [hr5]
            show (acc ++ [], ek) = _
            rw [List.append_nil]
          clear hr5
          rw [hr6] at hFs2 hRun'
          obtain ⟨s0, rest, rfl⟩ : ∃ s0 rest, acc = s0 :: rest := by
            cases acc with
            | nil => rw [List.length_nil] at hacl; omega
            | cons s0 rest => exact ⟨s0, rest, rfl⟩
          have hacl' : rest.length + 1 = ls.length := by rw [← hlal, ← hacl]; rfl
          have hFm : Fit ((mergesT srtI s0 rest).bind fun us => .ret (outOf us)) ek := hFs2
          have hFm1 := ((fit_bind _ _ _).mp hFm).1
          have hRm : run ((mergesT srtI s0 rest).bind fun us => .ret (outOf us)) ek = ((fin t p1).2, ⟨(fin t p1).1, (fin t p1).1.length, chs 1 (fin t p1).1⟩) := hRun'
          clear hFs2 hRun' hFm
          obtain ⟨A0, hA0⟩ : ∃ A0, ls[0]? = some A0 := ⟨_, List.getElem?_eq_getElem (by omega)⟩
          obtain ⟨v0, s0', hv0, hs0, a0, dx0, q0, dq0, D0, pl0, sd0, us0, rfl, S0, ok0⟩ := hSts.at_ 0 A0 (by simp) hA0
          have hs0 : s0 = s0' := Option.some.inj hs0
          subst hs0
          -- whole = stores[0]
          refine ⟨_, rfl, sl, us, 0, _, rfl, rfl, SqL.of hsl5, atI_nat (j := 0) hv0, ?_⟩
          -- for store in stores[1:]
          refine ⟨_, rfl, 1, rfl, sl, us, rfl, SqL.of hsl5, fun SL hSL => ?_⟩
          rw [cut1]
          have sSL := same_new (o := .lst (us.drop 1)) hSL
          have hSL1 : H1 SL = none := k5.free hSL (X5.newX hSL)
          have hSLX : ¬ d.X SL := X5.newX hSL
          have k6 := k5.trans (.of_same sSL)
          have hulen : us.length = ls.length := by rw [hSts.len, ← hacl']; rfl
          refine ⟨SL, rfl, ⟨_, SqL.of upd_same⟩, for_it walk_list (fun j σ H' => ∃ (o7 : Option V) (wa wdx wq wqx wD wpl wsd : Addr) (wps : List Str) (wus : List V) (ws : List Smp) (ej : ES), σ = [some (.ref D), some o, some (.ref ll), some (.ref d.p), some (.int (0 + (i : Int))), some (.ref sl), o6, o7, o8, some (.ref wa)] ∧ Kp d (upd H5 SL (.lst (us.drop 1))) H' ∧ StA K P w (fun b => d.X b ∨ b = sl) H' wa wdx wq wqx wD wpl wsd o ks gs rs kvs wps wus ws ∧
              (∀ x ∈ wps, ∃ m, m ≤ j ∧ x = pS m) ∧ wps.length ≤ j + 1 ∧ StOk gs rs (ls.take (j + 1)).flatten ws ∧ ExAt K d (fun b => d.X b ∨ b = sl) H' ej true false ((rowsT t).take i) ∧ Fit (mergesT srtI ws (rest.drop j)) ej ∧ run (mergesT srtI s0 rest) ek = run (mergesT srtI ws (rest.drop j)) ej)
            ⟨o7, a0, dx0, q0, dq0, D0, pl0, sd0, [pS 0], us0, s0, ek, rfl, Kp.refl _, S0.same sSL, (fun x hx => ⟨0, Nat.le_refl _, List.mem_singleton.mp hx⟩), Nat.le_refl _, by rw [flat_snoc hA0]; exact ok0, X5.same sSL, hFm1, rfl⟩
            (fun j σ H' _ ⟨_, _, _, _, _, _, _, _, _, _, _, _, _, kj, _⟩ => SqL.of (kj.keep _ _ upd_same hSLX)) ?_ ?_⟩
          · rintro j v σ H9 H' hj ⟨o7, wa, wdx, wq, wqx, wD, wpl, wsd, wps, wus, ws, ej, rfl, k9, S9, hwp, hwl, ok9, X9, hF9, hr9⟩ ⟨rfl, hv⟩
            rw [List.length_drop, hulen] at hj
            have hj0 : j = 0 := by omega
            obtain ⟨A1, hA1⟩ : ∃ A1, ls[j + 1]? = some A1 := ⟨_, List.getElem?_eq_getElem (by omega)⟩
            obtain ⟨v1, s1', hv1, hs1, b1, dx1, q1, dq1, D1, pl1, sd1, us1, rfl, S1, ok1⟩ := hSts.at_ (j + 1) A1 (by rw [List.length_cons]; omega) hA1
            have hvv : v = .ref b1 := by
              rw [List.getElem?_drop, Nat.add_comm 1 j, hv1] at hv
              exact (Option.some.inj hv).symm
            subst hvv
            have hs1 : rest[j]? = some s1' := hs1
            rw [drop_at hs1] at hF9 hr9
            have hF10 := (fit_bind _ _ _).mp hF9
            have hr10 : run (mergesT srtI s0 rest) ek = run (mergesT srtI (run (zipT srtI ws s1') ej).1 (rest.drop (j + 1))) (run (zipT srtI ws s1') ej).2 := hr9.trans (run_bind _ _ _)
            have S1' := (S1.same sSL).kp k9 (fun b hb => .inl hb)
            have hft := flat_take ls (j + 1 + 1)
            rw [flat_snoc hA1] at hft
            have hl4 : (ls.take (j + 1)).flatten.length + A1.length ≤ 4 := by
              have := hft.1
              rw [List.length_append] at this
              omega
            have hnd : (((ls.take (j + 1)).flatten ++ A1).map (·.key)).Nodup := hfn.sublist (hft.2.map _)
            have hiA : ∀ y ∈ (ls.take (j + 1)).flatten, ItOk y := fun y hy => by
              obtain ⟨B, hB, hyB⟩ := List.mem_flatten.mp hy
              exact (hit B (List.mem_of_mem_take hB) y hyB).2
            have hiB : ∀ y ∈ A1, ItOk y := fun y hy => (hit A1 (List.mem_of_getElem? hA1) y hy).2
            have okn := good_run _ ej (good_zip' srtI_ok S9.plan.ru.rok ok9 ok1 hiA hiB hl4).1 hF10.1
            refine ⟨_, rfl, wa, wdx, _, rfl, S9.ins, st_no _ _ _ _ (by decide +kernel), _, rfl, _, rfl, d, _, wa, wdx, wq, wqx, wD, wpl, wsd, b1, dx1, q1, dq1, D1, pl1, sd1, o, ks, gs, rs, kvs, wps, [pS (j + 1)], wus, us1, ws, s1', (ls.take (j + 1)).flatten, A1, ej, (rowsT t).take i, rfl, S9, S1', fun x hx z => ?_, by show wps.length + 1 ≤ 8; omega, ok9, ok1, hiA, hiB, hl4, hnd, X9, hF10.1, fun H10 f fx fq fqx fD fpl fsd fps fus k10 hperm SF XF => ?_⟩
            · obtain ⟨m, hm, rfl⟩ := hwp x hx
              have hm0 : m = 0 := by omega
              subst hm0 hj0
              exact pS_ne (List.mem_singleton.mp z).symm
            · refine ⟨_, f, fx, fq, fqx, fD, fpl, fsd, fps, fus, _, _, rfl, k9.trans k10, SF, fun x hx => ?_, by rw [hperm.length_eq, List.length_append]; show wps.length + 1 ≤ _; omega, by rw [flat_snoc hA1]; exact okn, XF, hF10.2, hr10⟩
              rcases List.mem_append.mp (hperm.mem_iff.mp hx) with z | z
              · obtain ⟨m, hm, e⟩ := hwp x z
                exact ⟨m, by omega, e⟩
              · exact ⟨j + 1, Nat.le_refl _, List.mem_singleton.mp z⟩
          · rintro σ H9 ⟨o7, wa, wdx, wq, wqx, wD, wpl, wsd, wps, wus, ws, ej, rfl, k9, S9, hwp, hwl, ok9, X9, hF9, hr9⟩
            have hrd : rest.drop (us.drop 1).length = [] := List.drop_eq_nil_of_le (by rw [List.length_drop]; omega)
            rw [hrd] at hr9
            have hr10 : run (mergesT srtI s0 rest) ek = (ws, ej) := hr9
            rw [run_bind, hr10] at hRm
            have hRo : outOf ws = (fin t p1).2 := congrArg Prod.fst hRm
            have hRe : ej = ⟨(fin t p1).1, (fin t p1).1.length, chs 1 (fin t p1).1⟩ := congrArg Prod.snd hRm
            have hwsl : ws.length ≤ 100 := by
              have := S9.len
              have := S9.plan.ru.rok.le3
              have := S9.plan.ru.rok.len
              omega
            -- explorer.end(plain(whole.view()[1]))
            obtain ⟨dxE, chE, psE, rsE, XE⟩ := id X9
            refine ⟨_, rfl, d.p, dxE, _, rfl, XE.ins, ex_no _ _ _ _ _ _ _ _ (by decide +kernel), _, rfl, wa, wdx, _, rfl, S9.ins, st_no _ _ _ _ (by decide +kernel), _, wa, wdx, wq, wqx, wD, wpl, wsd, o, ks, gs, rs, kvs, wps, wus, ws, rfl, S9, fun H10 x1 t1 y1 zs s10 h1 h2 hV => ?_⟩
            refine ⟨x1, _, 1, _, rfl, rfl, h1, atI1, t1, zs, ws, rfl, h2, hV, fun s hs => ?_, hwsl, fun v H11 s11 hO => ?_⟩
            · obtain ⟨m, hm, e⟩ := List.mem_iff_getElem.mp hs
              have hsm : ws[m]? = some s := by rw [List.getElem?_eq_getElem hm, e]
              obtain ⟨hmg, v1, _, _, b1, c1, bx1, _, A1, _, _⟩ := S9.get hsm
              refine ⟨fun x hx => (A1.its x hx).ts (.of_same s10), ?_⟩
              obtain ⟨s', hs', ok'⟩ := sok_at S9.plan.ru.rok ok9 hmg
              rw [hsm] at hs'
              cases hs'
              have h1 := ok'.sub.len
              have h2 := len_at gs (ls.take ((us.drop 1).length + 1)).flatten m
              have h3 := (flat_take ls ((us.drop 1).length + 1)).1
              omega
            · refine ⟨d, _, ej, (rowsT t).take i, v, outOf ws, rfl, X9.same (s10.trans s11), hO, by rw [hrl]; omega, fun H12 k12 X12 => ?_⟩
              refine ⟨_, _, _, _, _, _, ej, rfl, (k6.trans k9).trans ((Kp.of_same (s10.trans s11)).trans k12), ?_, ?_⟩
              · rw [hrows, ← hRo]
                have e1 : ej.ch = chs 1 (fin t p1).1 := by rw [hRe]
                rw [← e1]
                exact X12.less (fun b hb => .inl hb) fun b hb => hb
              · rw [hRe]
                exact hT'
      · refine ⟨false, rfl, ?_⟩
        refine iteT ?_
        have hil := hnn (fun z => hn0 (hr0.mpr z)) hadv
        have hall : (rowsT t).take i = rowsT t := List.take_of_length_le (by unfold rowsT; rw [List.length_map]; omega)
        rw [hall] at X3
        obtain ⟨dxF, chF, psF, rsF, XF⟩ := id X3
        have k13 := k2.trans k3
        exact ⟨_, rfl, d.p, dxF, _, rfl, XF.ins, ex_no _ _ _ _ _ _ _ _ (by decide +kernel), d, d.X, _, false, rowsT t, rfl, X3, hrok, fun H4 q zs s4 hq hql hRL => k H4 q zs ((sK k13).trans s4) ((sK k13).free hq) hql hRL⟩
    · rintro σ H' ⟨o4, o5, o6, o7, o8, o9, e, rfl, k2, X2, hT⟩
      have := hT.le
      omega
end
end Sam

set_option maxHeartbeats 4000000
set_option pp.maxSteps 600
namespace Sam
open PySem PySem.Spec PyProof.Rows L2 RT
section
variable {prog : Program} {w : World} {A : Around} {E : Value → Shared → Prop} {s : Shared}
/-- list(reversed(a list)): the walk fills the new list -/
theorem ext_rev {R : Result → Shared → Prop} {it l S : Addr} {c0 : Nat} {items : Array Value} (hh : A.handled = none) (hit : s.heap.IsRevIter it l ((items.size : Int) - 1)) (hl : s.heap.IsList l items) (hne : l ≠ it) (hn : items.size ≤ sizeLine) (hSi : S ≠ it) (hSl : S ≠ l)
    (hS : s.heap.get? S = some { cls := .type "list", data := .seq #[] c0 })
    (hQ : ∀ (h' : Heap) (tk : Nat) (acc : Array Value) (c : Nat), (∀ b o, b ≠ it → b ≠ S → s.heap.get? b = some o → h'.get? b = some o) → h'.get? S = some { cls := .type "list", dict := none, data := .seq acc c, slots := #[] } → ItemsOf (fun i v => items[items.size - 1 - i]? = some v) acc items.size → R (.ok (.ret .none)) { s with heap := h', toks := tk }) :
    wpAny (model prog w) A.in1 (Builtin.List.listExtendWith (.ref S) (.ref it) .none)
      (fun fin s' => match fin with | .done f => R (.ok f) s' | .again c' => c'.quiet = true ∧ codeAny (model prog w) A c' R s') (fun e s' => R (.error e) s') s := by
  have W := (Walks.listRev (prog := prog) (w := w) (A := A.in1) hh it l hne items).toS
  have hSf : S ∉ [it, l] := by simp only [List.mem_cons, List.not_mem_nil, or_false, not_or]; exact ⟨hSi, hSl⟩
  have hT : s.TypeIs (.ref it) "list_reverseiterator" := hit.typeIs
  have h1 : Builtin.List.listSameRef (.ref S) (.ref it) = false := by simp [Builtin.List.listSameRef, hSi]
  unfold Builtin.List.listExtendWith
  refine wpAny_bind (wpAny_typeOf hT ?_)
  rw [if_neg (by rw [h1]; decide)]
  refine wpAny_bind (wpAny_pyIter_revIter hit ?_)
  refine wpAny_bind (wpAny_holding ?_)
  unfold Builtin.List.listLengthHint
  refine wpAny_bind (wpAny_specialOf hT nolen_lri ?_)
  show wpAny _ A.in1 (specialOf (Value.ref it) (Str.ofString "__length_hint__") >>= _) _ _ _
  refine wpAny_bind (wpAny_specialOf hT hint_lri ?_)
  generalize hid : ("list_reverseiterator.__length_hint__" : String) = id0
  wp_delta
  rw [show splitId id0 = some ("list_reverseiterator", "__length_hint__") from by subst hid; decide +kernel]
  subst hid
  refine wpAny_bind (wpAny_isInstance (b := true) hT (by rw [isSubtype_type]; kernel_rfl) ?_)
  refine wpAny_pure ?_
  rw [if_neg (by decide)]
  have e0 : ((items.size : Nat) : Int) - 1 - ((0 : Nat) : Int) = (items.size : Int) - 1 := by omega
  refine wpAny_pure ⟨plainId_quiet F.plain_extend_loop _, codeAny_extend_loopS W hn _ hSf _ items.size 0 _ _ _ rfl (Nat.zero_le _) ⟨Nat.zero_le _, by rw [e0]; exact hit, hl⟩ hS (ItemsOf.nil _) fun s' acc' c' hm hS' hacc => ?_⟩
  rw [Moved.eq_with hm]
  refine hQ s'.heap s'.toks acc' c' (fun b o hb hb2 e => hm.heap b o (fun hmem => ?_) e) hS' hacc
  rcases List.mem_cons.mp hmem with e' | hmem
  · exact hb2 e'
  · exact hb (List.mem_singleton.mp hmem)
theorem call_list_rev {it l : Addr} {items : Array Value} {Q : Value → Shared → Prop} (hh : A.handled = none) (hit : s.heap.IsRevIter it l ((items.size : Int) - 1)) (hl : s.heap.IsList l items) (hne : l ≠ it) (hn : items.size ≤ sizeLine)
    (hQ : ∀ (h' : Heap) (tk : Nat) (acc : Array Value) (c : Nat), (∀ b o, b ≠ it → s.heap.get? b = some o → h'.get? b = some o) → h'.get? s.heap.objs.size = some { cls := .type "list", dict := none, data := .seq acc c, slots := #[] } → ItemsOf (fun i v => items[items.size - 1 - i]? = some v) acc items.size → Q (.ref s.heap.objs.size) { s with heap := h', toks := tk }) :
    wpAny (model prog w) A (call (.type "list") [.ref it]) Q E s := by
  refine callType_codes (Q₁ := fun obj s₁ => obj = .ref s.heap.objs.size ∧ s₁ = { s with heap := s.heap.push { cls := .type "list", data := .seq #[] } }) PySem.F.called_list (PySem.F.typeCall_list_1 _) PySem.F.entry_list_init
    (code_list_new _ ⟨rfl, rfl⟩) fun obj s₁ h₁ => ?_
  obtain ⟨rfl, rfl⟩ := h₁
  obtain ⟨oi, hoi, _⟩ := id hit
  obtain ⟨ol, hol, _⟩ := id hl
  have hSi : s.heap.objs.size ≠ it := Nat.ne_of_gt (Heap.lt_size hoi)
  have hSl : s.heap.objs.size ≠ l := Nat.ne_of_gt (Heap.lt_size hol)
  have hS : (s.heap.push { cls := .type "list", data := .seq #[] }).get? s.heap.objs.size = some { cls := .type "list", data := .seq #[] } := Heap.get?_push_size _ rfl
  refine ⟨⟨_, hS, rfl⟩, PySem.F.args_list_init_2 _ _, ?_⟩
  show wpAny _ _ (do let old ← Builtin.List.listItems (.ref s.heap.objs.size); Builtin.List.listUpdate (.ref s.heap.objs.size) (fun _ => #[]); letGo old.toList.reverse; Builtin.List.listExtendWith (.ref s.heap.objs.size) (.ref it) .none) _ _ _
  refine wpAny_bind ?_
  unfold Builtin.List.listItems
  refine wpAny_bind (wpAny_seqItems hS rfl (wpAny_pure ?_))
  show wpAny _ _ (updateSeq s.heap.objs.size (fun _ => #[]) >>= fun _ => letGo (#[] : Array Value).toList.reverse >>= fun _ => Builtin.List.listExtendWith (.ref s.heap.objs.size) (.ref it) .none) _ _ _
  refine wpAny_bind (wpAny_updateSeq hS rfl ?_)
  have hS2 := Heap.get?_update_self (Obj.mapSeq (fun _ => (#[] : Array Value))) hS rfl
  have oth : ∀ b o, s.heap.get? b = some o → ((s.heap.push { cls := .type "list", data := .seq #[] }).update s.heap.objs.size (Obj.mapSeq (fun _ => (#[] : Array Value)))).get? b = some o :=
    fun b o e => (Heap.get?_update_other _ _ (Nat.ne_of_gt (Heap.lt_size e))).trans (Heap.get?_push_of_some _ e)
  refine wpAny_bind (wpAny_letGo ?_)
  refine ext_rev (A := A.in1) hh (hit.at fun o e => oth _ _ e) (let ⟨o, e, r⟩ := hl; ⟨o, oth _ _ e, r⟩) hne hn hSi hSl hS2 fun h' tk acc c hk hS' hacc => ?_
  exact ⟨rfl, hQ h' tk acc c (fun b o hb e => hk b o hb (Nat.ne_of_lt (Heap.lt_size e)) (oth b o e)) hS' hacc⟩
end
section
variable {X : Cx}
def tLstRev (K : PySem.W.Frag) (te : TE) : TE := fun σ H Q => te σ H fun v H1 => ∃ (a : Addr) (xs : List V), v = .ref a ∧ SqL K H1 a xs ∧ ∀ q, H1 q = none → Q (.ref q) (upd H1 q (.lst xs.reverse))
theorem pe_lstRev {e : Expr} {te : TE} {p p2 pos pos2 : Pos} (hc : X.calm = true) (hg : Gl X "list") (hm : X.mg "list" = none) (hg2 : Gl X "reversed") (hm2 : X.mg "reversed" = none) (he : PE X e te)
    (hs : starEach [e] X.env = (false, eval e X.env) :: starEach [] X.env := by rfl)
    (hs2 : starEach [.Call (.Name "reversed" p2) [e] [] pos2] X.env = (false, eval (.Call (.Name "reversed" p2) [e] [] pos2) X.env) :: starEach [] X.env := by rfl) :
    PE X (.Call (.Name "list" p) [.Call (.Name "reversed" p2) [e] [] pos2] [] pos) (tLstRev X.K te) := by
  refine ⟨fun pins s σ H Q I h => ?_⟩
  refine Call_ (ld_blt I hg hm (u := .type "list") (by first | rfl | decide +kernel) (PyProof.Rows.callWith_type1 (args_cons (Call_ (ld_blt I hg2 hm2 PyProof.Rows.boot_reversed (PyProof.Rows.callWith_type1 (args_cons (thn (he.run pins s σ H _ I h) fun u s1 ⟨v, H1, I1, r1, q1⟩ => args_nil ?_) hs) hs rfl))) hs2) hs2 rfl))
  obtain ⟨a, xs, ev, hq, q⟩ := q1
  subst ev
  obtain rfl : u = Value.ref a := r1
  obtain ⟨its, rv, p', hz⟩ := I1.list hq
  refine call_reversed_list p'.isList (args_nil ?_)
  have I2 : Inv X pins σ H1 { s1 with heap := s1.heap.push (revObj a ((its.toArray.size : Int) - 1)) } := I1.kept (t' := s1.toks) fun b o e => Heap.get?_push_of_some _ e
  obtain ⟨f0, f1, f2, f3, f4, f5⟩ := I1.fpOk (H' := H1) (b := s1.heap.objs.size) (Nat.le_refl _) (I1.hok.fresh (Nat.le_refl _))
  have hl := p'.isList
  obtain ⟨ol, hol, _⟩ := id hl
  have hne : a ≠ s1.heap.objs.size := Nat.ne_of_lt (Heap.lt_size hol)
  have hn : its.toArray.size ≤ sizeLine := by rw [List.size_toArray, ← rv.length]; exact hz
  have hsz : (s1.heap.push (revObj a ((its.toArray.size : Int) - 1))).objs.size = s1.heap.objs.size + 1 := Heap.size_push _ _
  refine call_list_rev (s := { s1 with heap := s1.heap.push (revObj a ((its.toArray.size : Int) - 1)) }) (I1.ok.hd hc) ⟨_, Heap.get?_push_size _ rfl, rfl, rfl⟩ (hl.push _) hne hn fun h' tk acc c hk hS hi => ?_
  have hS : h'.get? (s1.heap.push (revObj a ((its.toArray.size : Int) - 1))).objs.size = some { cls := .type "list", dict := none, data := .seq acc c, slots := #[] } := hS
  rw [hsz] at hS
  show L2.EP X pins σ Q (.ref (s1.heap.push (revObj a ((its.toArray.size : Int) - 1))).objs.size) _
  rw [hsz]
  -- the new list is tracked
  refine ⟨.ref (s1.heap.objs.size + 1), upd H1 (s1.heap.objs.size + 1) (.lst xs.reverse), ?_, rfl, q _ (I1.hok.fresh (Nat.le_succ _))⟩
  have nH : H1 (s1.heap.objs.size + 1) = none := I1.hok.fresh (Nat.le_succ _)
  exact I1.laid (t' := tk) (fun b o e => hk b o (Nat.ne_of_lt (Heap.lt_size e)) (Heap.get?_push_of_some _ e)) (Nat.le_succ _)
    (show ObjOk X.prog X.w _ _ _ (.lst xs.reverse) from ⟨by rw [List.length_reverse]; exact hz, acc.toList, c, vals_rev rv hi, by rw [Array.toArray_toList]; exact hS⟩)
end
end Sam

set_option maxHeartbeats 8000000
set_option pp.maxSteps 600
namespace Sam
open PySem PySem.Spec PyProof.Rows L2
def spDraws (K : PySem.W.Frag) : Sp := fun vs H Q _ => ∃ (a : Addr) (ns : List Int), vs = [.ref a] ∧ SqL K H a (ns.map V.int) ∧ ns.length ≤ 63 ∧ ∀ (H' : Hp) (l : Addr) (ds : List Int), Same H H' → H l = none → H' l = some (.lst (ds.map V.int)) → ds.length ≤ 5000 → Q (.ref l) H'
/-- only the list at a changes -/
def OnlyL (a : Addr) (H H' : Hp) : Prop := ∃ ds : List Int, H' a = some (.lst (ds.map V.int)) ∧ ds.length ≤ 5000 ∧ ∀ c, c ≠ a → H' c = H c
def spTake (K : PySem.W.Frag) : Sp := fun vs H Q _ => ∃ (a : Addr) (b : Int) (ds : List Int), vs = [.ref a, .int b] ∧ H a = some (.lst (ds.map V.int)) ∧ ds.length ≤ 5000 ∧ 0 < b ∧ ∀ (v : Int) (H' : Hp), 0 ≤ v → v < b → OnlyL a H H' → Q (.int v) H'
theorem snocI (ds : List Int) (x : Int) : ds.map V.int ++ [V.int x] = (ds ++ [x]).map V.int := by rw [List.map_append]; rfl
theorem dlt {n : Nat} (h : n ≤ 5000) : n < sizeLine := by rw [sizeLine_eq]; omega
section
variable {P : Program} {w : World} {K : PySem.W.Frag} {mg : Str → Option Value} {base : Heap}
theorem ok_l_take (T : Tx K mg) : Cal P w K mg base 1 "_law_take" ["_law_draws_here", "_law_bound"] (spTake K) := by
  obtain ⟨fd, F⟩ := T.d_l_take
  refine ⟨_, fd, T.g_law_take, F.kp, F.binds (ps := ["_law_draws_here", "_law_bound"]) fun _ _ _ _ _ _ us hl => match us, hl with | [_, _], _ => rfl, F.ok sc_l_take (fun vs H Q E h => ?_) (fun cdv A outer s H vs Q E hr h => ?_)⟩
  · obtain ⟨a, b, ds, rfl, _⟩ := h
    rfl
  · obtain ⟨a, b, ds, rfl, ha, hl, hb, k⟩ := h
    refine ⟨_, pss_cons (ps_if (pt_cmpR op_eq (pe_callB call_len_seq (by rfl) T.f_len PySem.boot_len (pa_cons (pv 0) pa_nil)) pe_int (nomark _)) (pss_one (ps_ret pe_int)) pss_nil)
      (pss_one (ps_ret (pe_op op_mod (pe_callTy call_int1 (by rfl) T.f_int (by decide +kernel) (pa_cons (pe_bm0 PySem.F.plainAttrs_list PySem.F.slot_list_pop PySem.F.type_list_pop mt_pop (pv 0)) pa_nil)) (pv 1)))), ?_⟩
    refine ⟨_, rfl, a, _, rfl, .inl (SqL.of ha), rfl, _, rfl, ?_⟩
    refine ite2 (fun h0 => ?_) (fun h0 => ?_)
    · exact k 0 H (Int.le_refl _) hb ⟨ds, ha, hl, fun c _ => rfl⟩
    · have hne : ds ≠ [] := fun z => h0 (by rw [z]; decide +kernel)
      have hd : ds.dropLast ++ [ds.getLast hne] = ds := List.dropLast_concat_getLast hne
      generalize hx : ds.getLast hne = x at hd
      have hlen : ds.length = ds.dropLast.length + 1 := by
        rw [List.length_dropLast]
        have := List.length_pos_iff.mpr hne
        omega
      refine ⟨_, rfl, .inl ⟨rfl, _, SqL.of ha⟩, a, _, .int x, rfl, rfl, ha, ?_, .inl ⟨x, rfl, _, rfl, _, _, rfl, rfl, hb, ?_⟩⟩
      · rw [← hd, ← snocI, List.length_append, List.getElem?_append_right (by simp)]
        simp
      · refine k _ _ (Int.emod_nonneg _ (by omega)) (Int.emod_lt_of_pos _ hb) ⟨ds.dropLast, by rw [upd_same, List.map_dropLast], by omega, fun c hc => upd_ne hc⟩
theorem ok_l_draws (T : Tx K mg) : Cal P w K mg base 1 "_law_draws" ["_law_script"] (spDraws K) := by
  obtain ⟨fd, F⟩ := T.d_l_draws
  refine ⟨_, fd, T.g_law_draws, F.kp, F.binds (ps := ["_law_script"]) fun _ _ _ _ _ _ us hl => match us, hl with | [_], _ => rfl, F.ok sc_l_draws (fun vs H Q E h => ?_) (fun cdv A outer s H vs Q E hr h => ?_)⟩
  · obtain ⟨a, ns, rfl, _⟩ := h
    rfl
  · obtain ⟨a, ns, rfl, ha, hn, k⟩ := h
    have nd := sc_l_draws.nd
    refine ⟨_, pss_cons (ps_set (i := 1) nd rfl (.inl rfl) (pe_lst pa_nil))
      (pss_cons (ps_for PassesOwn.never rfl (pi_list (pv 0)) (pg_name (i := 2) nd rfl (.inl rfl))
        (pss_cons (ps_set (i := 3) nd rfl (.inl rfl) (pe_callB call_abs (by rfl) T.f_abs (by decide +kernel) (pa_cons (pv 2) pa_nil)))
        (C8.pss_cut (ps_if (pt_cmpR op_lt (pv 3) (pe_op op_pow pe_int pe_int) (nomark _))
          (pss_cons (ps_set (i := 4) nd rfl (.inl rfl) (pe_op op_mod (pe_callTy call_int1 (by rfl) T.f_int (by decide +kernel) (pa_cons (pe_op op_add (pe_op op_mul (pv 3) pe_int) pe_int) pa_nil)) pe_int))
          (pss_cons (ps_expr (pe_bm PySem.F.plainAttrs_list PySem.F.slot_list_append PySem.F.type_list_append mt_append (pv 1) (pa_cons (pe_op op_mod (pe_callTy call_int1 (by rfl) T.f_int (by decide +kernel) (pa_cons (pe_op op_add (pe_op op_mul (pv 4) pe_int) (pv 3)) pa_nil)) pe_int) pa_nil)))
          (pss_cons (ps_expr (pe_bm PySem.F.plainAttrs_list PySem.F.slot_list_append PySem.F.type_list_append mt_append (pv 1) (pa_cons (pe_op op_mod (pe_callTy call_int1 (by rfl) T.f_int (by decide +kernel) (pa_cons (pe_op op_add (pv 4) (pe_op op_fdivW (pv 3) pe_int)) pa_nil)) pe_int) pa_nil)))
          (pss_one (ps_set (i := 3) nd rfl (.inl rfl) pe_int))))) pss_nil)
        (pss_one (ps_for PassesOwn.never rfl (pi_range1 rfl T.f_range (pa_cons pe_int pa_nil)) (pg_name (i := 5) nd rfl (.inl rfl))
          (pss_one (ps_if (pt_cmpR op_gt (pv 3) pe_int (nomark _))
            (pss_cons (ps_expr (pe_bm PySem.F.plainAttrs_list PySem.F.slot_list_append PySem.F.type_list_append mt_append (pv 1) (pa_cons (pe_op op_mod (pe_callTy call_int1 (by rfl) T.f_int (by decide +kernel) (pa_cons (pv 3) pa_nil)) pe_int) pa_nil)))
            (pss_one (ps_set (i := 3) nd rfl (.inl rfl) (pe_op op_fdivW (pv 3) pe_int)))) pss_nil)))))))
      (pss_cons (ps_set (i := 6) nd rfl (.inl rfl) pe_int)
      (C8.pss_cut (ps_if (pt_cmpR op_gt (pe_callB call_len_seq (by rfl) T.f_len PySem.boot_len (pa_cons (pv 0) pa_nil)) pe_int (nomark _))
        (pss_one (ps_set (i := 6) nd rfl (.inl rfl) (pe_op op_add pe_int (pe_callB call_abs (by rfl) T.f_abs (by decide +kernel) (pa_cons (pe_ix ix_list (pv 0) pe_int fun _ _ => rfl) pa_nil))))) pss_nil)
      (pss_cons (ps_for PassesOwn.never rfl (pi_range1 rfl T.f_range (pa_cons pe_int pa_nil)) (pg_name (i := 5) nd rfl (.inl rfl))
        (pss_cons (ps_set (i := 6) nd rfl (.inl rfl) (pe_op op_mod (pe_callTy call_int1 (by rfl) T.f_int (by decide +kernel) (pa_cons (pe_op op_add (pe_op op_mul (pv 6) pe_int) pe_int) pa_nil)) pe_int))
        (pss_one (ps_expr (pe_bm PySem.F.plainAttrs_list PySem.F.slot_list_append PySem.F.type_list_append mt_append (pv 1) (pa_cons (pe_op op_fdivW (pv 6) pe_int) pa_nil))))))
      (pss_one (ps_ret (pe_lstRev rfl (by rfl) T.f_list (by rfl) T.f_reversed (pv 1)))))))), ?_⟩
    have c7 : ∀ i : Int, CDivW i 7 := fun i => ⟨by decide, by decide +kernel⟩
    have c997 : ∀ i : Int, CDivW i 997 := fun i => ⟨by decide, by decide +kernel⟩
    have c5 : ∀ i : Int, CDivW i 5 := fun i => ⟨by decide, by decide +kernel⟩
    have cm1 : ∀ i : Int, CMul i 48271 := fun i => .inr (by decide)
    have cm2 : ∀ i : Int, CMul i 69621 := fun i => .inr (by decide)
    refine ⟨Nat.zero_le _, fun D hD => ?_⟩
    have s1 := same_new (o := .lst []) hD
    have app : ∀ {H' : Hp} {ds : List Int} (x : Int), Same H H' → H' D = some (.lst (ds.map V.int)) → Same H (upd H' D (.lst (ds.map V.int ++ [V.int x]))) ∧ upd H' D (.lst (ds.map V.int ++ [V.int x])) D = some (.lst ((ds ++ [x]).map V.int)) := fun {H' ds} x s0 h0 =>
      ⟨fun b ob eb => by rw [upd_ne (ne_of_none eb hD)]; exact s0 b ob eb, by rw [upd_same, snocI]⟩
    refine ⟨_, rfl, a, rfl, ⟨_, s1.seq ha⟩, for_it walk_list (fun i σ H' => ∃ (o2 o3 o4 o5 : Option V) (ds : List Int), σ = [some (.ref a), some (.ref D), o2, o3, o4, o5, none] ∧ Same H H' ∧ H' D = some (.lst (ds.map V.int)) ∧ ds.length ≤ 62 * i)
      ⟨none, none, none, none, [], rfl, s1, upd_same, Nat.zero_le _⟩ (fun i σ H' _ ⟨_, _, _, _, _, _, h', _⟩ => h'.seq ha) ?_ ?_⟩
    · rintro i v σ H2 H' hi ⟨o2, o3, o4, o5, ds, rfl, s2, hDl, hdl⟩ ⟨rfl, hv⟩
      rw [List.length_map] at hi
      obtain ⟨c, hc, rfl⟩ := map_at hv
      refine ⟨_, rfl, c, rfl, ?_⟩
      generalize (if c < 0 then -c else c) = num
      refine ⟨fun σ H3 => ∃ (n3 : Int) (o4 : Option V) (ds : List Int), σ = [some (.ref a), some (.ref D), some (.int c), some (.int n3), o4, o5, none] ∧ Same H H3 ∧ H3 D = some (.lst (ds.map V.int)) ∧ ds.length ≤ 62 * i + 2, ?_, ?_⟩
      · refine ⟨_, rfl, _, _, rfl, rfl, ⟨by decide, by decide, by decide⟩, _, _, rfl, rfl, _, rfl, ?_⟩
        refine ite2 (fun _ => ?_) (fun _ => ?_)
        · refine ⟨_, rfl, _, _, rfl, rfl, cm1 _, _, _, rfl, rfl, .inl ⟨_, rfl, _, _, rfl, rfl, (show (0 : Int) < 2147483647 by decide), ?_⟩⟩
          refine ⟨_, rfl, .inl ⟨rfl, _, SqL.of hDl⟩, _, rfl, _, _, rfl, rfl, cm2 _, _, rfl, _, _, rfl, rfl, .inl ⟨_, rfl, _, _, rfl, rfl, (show (0 : Int) < 2147483629 by decide), D, _, _, rfl, rfl, hDl, (by rw [List.length_map]; exact dlt (by omega)), ?_⟩⟩
          obtain ⟨s3, hD3⟩ := app _ s2 hDl
          refine ⟨_, rfl, .inl ⟨rfl, _, SqL.of hD3⟩, _, rfl, _, rfl, _, _, rfl, rfl, c7 _, _, _, rfl, rfl, .inl ⟨_, rfl, _, _, rfl, rfl, (show (0 : Int) < 1000003 by decide), D, _, _, rfl, rfl, hD3, (by rw [List.length_map, List.length_append]; exact dlt (by show _ + 1 ≤ _; omega)), ?_⟩⟩
          obtain ⟨s4, hD4⟩ := app _ s3 hD3
          exact ⟨_, _, _, rfl, s4, hD4, by rw [List.length_append, List.length_append]; show ds.length + 1 + 1 ≤ _; omega⟩
        · exact ⟨_, _, ds, rfl, s2, hDl, by omega⟩
      · rintro σ H3 ⟨n3, o4, ds3, rfl, s3, hD3, hdl3⟩
        refine ⟨60, rfl, by decide, by decide, ?_⟩
        refine for_range (lo := 0) (n := 60) (fun j σ H4 => ∃ (n3 : Int) (o5 : Option V) (ds : List Int), σ = [some (.ref a), some (.ref D), some (.int c), some (.int n3), o4, o5, none] ∧ Same H H4 ∧ H4 D = some (.lst (ds.map V.int)) ∧ ds.length ≤ 62 * i + 2 + j) ⟨n3, o5, ds3, rfl, s3, hD3, hdl3⟩ ?_ ?_
        · rintro j σ H4 hj ⟨n4, o5, ds4, rfl, s4, hD4, hdl4⟩
          refine ⟨_, rfl, _, _, rfl, rfl, _, rfl, ?_⟩
          refine ite2 (fun _ => ?_) (fun _ => ?_)
          · refine ⟨_, rfl, .inl ⟨rfl, _, SqL.of hD4⟩, _, rfl, .inl ⟨_, rfl, _, _, rfl, rfl, (show (0 : Int) < 997 by decide), D, _, _, rfl, rfl, hD4, (by rw [List.length_map]; exact dlt (by omega)), ?_⟩⟩
            obtain ⟨s5, hD5⟩ := app _ s4 hD4
            exact ⟨_, rfl, _, _, rfl, rfl, c997 _, _, _, _, rfl, s5, hD5, by rw [List.length_append]; show ds4.length + 1 ≤ _; omega⟩
          · exact ⟨_, _, ds4, rfl, s4, hD4, by omega⟩
        · rintro σ H4 ⟨n4, o5, ds4, rfl, s4, hD4, hdl4⟩
          exact ⟨_, _, _, _, ds4, rfl, s4, hD4, by omega⟩
    · rintro σ H2 ⟨o2, o3, o4, o5, ds, rfl, s2, hDl, hdl⟩
      rw [List.length_map] at hdl
      refine ⟨fun σ H3 => ∃ (n6 : Int), σ = [some (.ref a), some (.ref D), o2, o3, o4, o5, some (.int n6)] ∧ H3 = H2, ?_, ?_⟩
      · refine ⟨_, rfl, a, _, rfl, .inl (s2.seq ha), _, _, rfl, rfl, _, rfl, ?_⟩
        refine ite2 (fun hp => ?_) (fun _ => ?_)
        · have hp := of_decide_eq_true hp
          rw [List.length_map] at hp
          obtain ⟨c, hc⟩ : ∃ c, ns[0]? = some c := ⟨_, List.getElem?_eq_getElem (by omega)⟩
          exact ⟨_, rfl, a, _, 0, _, rfl, rfl, s2.seq ha, atI_nat (j := 0) (by rw [List.getElem?_map, hc]; rfl), c, rfl, _, _, rfl, rfl, _, rfl, rfl⟩
        · exact ⟨_, rfl, rfl⟩
      · rintro σ H3 ⟨n6, rfl, rfl⟩
        refine ⟨240, rfl, by decide, by decide, ?_⟩
        refine for_range (lo := 0) (n := 240) (fun j σ H4 => ∃ (n6 : Int) (o5 : Option V) (ds : List Int), σ = [some (.ref a), some (.ref D), o2, o3, o4, o5, some (.int n6)] ∧ Same H H4 ∧ H4 D = some (.lst (ds.map V.int)) ∧ ds.length ≤ 62 * ns.length + j) ⟨n6, o5, ds, rfl, s2, hDl, hdl⟩ ?_ ?_
        · rintro j σ H4 hj ⟨n4, o5, ds4, rfl, s4, hD4, hdl4⟩
          refine ⟨_, rfl, _, _, rfl, rfl, cm1 _, _, _, rfl, rfl, .inl ⟨_, rfl, _, _, rfl, rfl, (show (0 : Int) < 2147483647 by decide), ?_⟩⟩
          refine ⟨_, rfl, .inl ⟨rfl, _, SqL.of hD4⟩, _, rfl, _, _, rfl, rfl, c5 _, D, _, _, rfl, rfl, hD4, (by rw [List.length_map]; exact dlt (by omega)), ?_⟩
          obtain ⟨s5, hD5⟩ := app _ s4 hD4
          exact ⟨_, _, _, rfl, s5, hD5, by rw [List.length_append]; show ds4.length + 1 ≤ _; omega⟩
        · rintro σ H4 ⟨n4, o5, ds4, rfl, s4, hD4, hdl4⟩
          refine ⟨_, rfl, D, _, rfl, SqL.of hD4, fun q hq => ?_⟩
          exact k _ q ds4.reverse (s4.trans (same_new hq)) (s4.free hq) (by rw [upd_same, List.map_reverse]) (by rw [List.length_reverse]; omega)
end
end Sam

set_option maxHeartbeats 8000000
set_option pp.maxSteps 600
namespace Sam
open PySem PySem.Spec PyProof.Rows L2
/-- all stays but the draws at da -/
structure KD (da : Addr) (H H' : Hp) : Prop where
  at_ : ∃ ds : List Int, H' da = some (.lst (ds.map V.int)) ∧ ds.length ≤ 5000
  keep : ∀ b o, H b = some o → b ≠ da → H' b = some o
section
variable {da : Addr} {H H1 H2 : Hp}
theorem OnlyL.kd (h : OnlyL da H H1) : KD da H H1 := let ⟨ds, a, b, c⟩ := h; ⟨⟨ds, a, b⟩, fun g o e n => by rw [c g n]; exact e⟩
theorem KD.trans (a : KD da H H1) (b : KD da H1 H2) : KD da H H2 := ⟨b.at_, fun c o e n => b.keep c o (a.keep c o e n) n⟩
theorem KD.same (a : KD da H H1) (s : Same H1 H2) : KD da H H2 := ⟨let ⟨ds, x, y⟩ := a.at_; ⟨ds, s _ _ x, y⟩, fun c o e n => s _ _ (a.keep c o e n)⟩
theorem KD.new (a : KD da H H1) {p : Addr} {u : HO} (h : H1 p = none) : KD da H (upd H1 p u) := a.same (same_new h)
theorem KD.mine (a : KD da H H1) {p : Addr} {u : HO} (h : H p = none) (n : p ≠ da) : KD da H (upd H1 p u) := ⟨let ⟨ds, x, y⟩ := a.at_; ⟨ds, by rw [upd_ne (Ne.symm n)]; exact x, y⟩, fun c o e m => by rw [upd_ne (ne_of_none e h)]; exact a.keep c o e m⟩
theorem KD.refl {ds : List Int} (h : H da = some (.lst (ds.map V.int))) (hl : ds.length ≤ 5000) : KD da H H := ⟨⟨ds, h, hl⟩, fun _ _ e _ => e⟩
theorem KD.free (a : KD da H H1) {p : Addr} (h : H1 p = none) : H p = none := by
  by_cases z : p = da
  · obtain ⟨ds, x, _⟩ := a.at_
    rw [z, x] at h
    cases h
  · cases e : H p with
    | none => rfl
    | some o =>
      rw [a.keep p o e z] at h
      cases h
theorem KD.ne (a : KD da H H1) {p : Addr} (h : H1 p = none) : p ≠ da := fun z => by
  obtain ⟨ds, x, _⟩ := a.at_
  rw [z, x] at h
  cases h
/-- tuples stay -/
theorem KD.ts (a : KD da H H1) {xs : List V} (h : H da = some (.lst xs)) : Ts H H1 := ⟨fun b ys e => a.keep _ _ e (fun z => by rw [z, h] at e; cases e), fun b o u e => a.keep _ _ e (fun z => by rw [z, h] at e; cases e)⟩
theorem KD.seq {K : PySem.W.Frag} (k : KD da H H1) {a : Addr} {xs : List V} {zs : List V} (hz : H da = some (.lst zs)) (h : SqL K H a xs) (n : a ≠ da) : SqL K H1 a xs := by
  rcases h with (h | ⟨o, h⟩) | h
  · exact .inl (.inl (k.keep _ _ h n))
  · exact .inl (.inr ⟨o, k.keep _ _ h n⟩)
  · exact .inr h
end
/-! ### rows to be sorted -/
abbrev RowK := Addr × Int × Nat
def rkD (r : RowK) : PyData := .list [.int r.2.1, .int (r.2.2 : Int)]
def rkV (r : RowK) : V := .ref r.1
theorem rk_alike (l : List RowK) : PySem.W.AllAlike (l.map rkD) := PySem.W.AllAlike.of fun x y => by simp [rkD, PySem.W.alike, PySem.W.alikeAll]
theorem rk_sortable (l : List RowK) : PySem.W.Sortable (l.map rkD) := .inr fun d hd => by
  obtain ⟨r, _, rfl⟩ := List.mem_map.mp hd
  exact ⟨fun z => (nomatch z), fun xs z => (nomatch z)⟩
theorem rk_depth (r : RowK) : (rkD r).depth ≤ 8 := by simp [rkD, PyData.depth, PyData.depthAll]
def pickI (A : List Itm) (rows : List RowK) : List Itm := rows.filterMap fun r => A[r.2.2]?
theorem fm_congr {α β : Type} {f g : α → Option β} : ∀ {l : List α}, (∀ x ∈ l, f x = g x) → l.filterMap f = l.filterMap g
  | [], _ => rfl
  | x :: l, h => by
    rw [List.filterMap_cons, List.filterMap_cons, h x List.mem_cons_self, fm_congr fun y hy => h y (List.mem_cons_of_mem _ hy)]
theorem range_all {α : Type} (A : List α) : (List.range A.length).filterMap (fun i => A[i]?) = A := by
  induction A using snoc_ind with
  | h0 => rfl
  | h1 A x ih =>
    rw [List.length_append, List.length_singleton, List.range_succ, List.filterMap_append]
    have e : (List.range A.length).filterMap (fun i => (A ++ [x])[i]?) = (List.range A.length).filterMap (fun i => A[i]?) := fm_congr fun i hi => List.getElem?_append_left (List.mem_range.mp hi)
    rw [e, ih]
    simp
theorem pick_perm {A : List Itm} {rows srt : List RowK} (h : rows.map (·.2.2) = List.range A.length) (hp : srt.Perm rows) : (pickI A srt).Perm A := by
  have e : pickI A rows = A := by
    have z : (rows.map (·.2.2)).filterMap (fun i => A[i]?) = A := by rw [h]; exact range_all A
    rw [List.filterMap_map] at z
    exact z
  have q : (pickI A srt).Perm (pickI A rows) := hp.filterMap _
  rw [e] at q
  exact q
def spMixed (K : PySem.W.Frag) : Sp := fun vs H Q _ => ∃ (da la : Addr) (ds : List Int) (A : List Itm), vs = [.ref da, .ref la] ∧ H da = some (.lst (ds.map V.int)) ∧ ds.length ≤ 5000 ∧ SqL K H la (A.map itR) ∧ la ≠ da ∧ A.length ≤ 10 ∧ ∀ (H' : Hp) (l : Addr) (B : List Itm), B.Perm A → KD da H H' → H l = none → H' l = some (.lst (B.map itR)) → Q (.ref l) H'
def keysAll : List Str := ["a", "b7", "k", "q", "zz", "9", "m2", "or"]
def spStream (K : PySem.W.Frag) : Sp := fun vs H Q _ => ∃ (da : Addr) (ds : List Int), vs = [.ref da, .int 5] ∧ H da = some (.lst (ds.map V.int)) ∧ ds.length ≤ 5000 ∧ ∀ (H' : Hp) (l : Addr) (B : List Itm), KD da H H' → H l = none → H' l = some (.lst (B.map itR)) → (∀ x ∈ B, ItAt K H' x ∧ ItOk x ∧ x.key ∈ keysAll) → (B.map (·.key)).Nodup → B.length ≤ 5 → Q (.ref l) H'
section
variable {P : Program} {w : World} {K : PySem.W.Frag} {mg : Str → Option Value} {base : Heap}
theorem ok_l_mixed (T : Tx K mg) : Cal P w K mg base 2 "_law_mixed" ["_law_draws_here", "_law_items"] (spMixed K) := by
  obtain ⟨fd, F⟩ := T.d_l_mixed
  refine ⟨_, fd, T.g_law_mixed, F.kp, F.binds (ps := ["_law_draws_here", "_law_items"]) fun _ _ _ _ _ _ us hl => match us, hl with | [_, _], _ => rfl, F.ok sc_l_mixed (fun vs H Q E h => ?_) (fun cdv A outer s H vs Q E hr h => ?_)⟩
  · obtain ⟨da, la, ds, A, rfl, _⟩ := h
    rfl
  · obtain ⟨da, la, ds, A, rfl, hda, hdl, hla, hne, hA10, k⟩ := h
    have nd := sc_l_mixed.nd
    refine ⟨_, pss_cons (ps_set (i := 2) nd rfl (.inl rfl) (pe_callB (cr_sortD hr.units) (by rfl) T.f_sorted (by decide +kernel) (pa_cons
        (pe_lc (own := [("_law_k", 3)]) (g := gName 3) (tt := tYes) rfl nd (pi_range1 rfl T.f_range (pa_cons (pe_callB call_len_seq (by rfl) T.f_len PySem.boot_len (pa_cons (pv 1) pa_nil)) pa_nil)) (blkOk_by (N := ["_law_draws_here", "_law_items", "_law_order", "_law_k", "_law_row"]) (sc := defScope s_l_mixed) (by decide +kernel))
          (fun _ _ _ _ _ => pg_name (i := 3) nd rfl (Or.inl rfl)) (fun _ _ _ _ _ => pts_nil) (fun _ _ _ _ _ => pe_lst (pa_cons (pe_f (ok_l_take T) hr rfl (pa_cons (pv 0) (pa_cons pe_int pa_nil))) (pa_cons (pv 3) pa_nil)))) pa_nil)))
      (pss_one (ps_ret (pe_lc (own := [("_law_row", 4)]) (g := gName 4) (tt := tYes) rfl nd (pi_list (pv 2)) (blkOk_by (N := ["_law_draws_here", "_law_items", "_law_order", "_law_k", "_law_row"]) (sc := defScope s_l_mixed) (by decide +kernel))
        (fun _ _ _ _ _ => pg_name (i := 4) nd rfl (Or.inl rfl)) (fun _ _ _ _ _ => pts_nil) (fun _ _ _ _ _ => pe_ix (ixLK K rfl) (pv 1) (pe_ix (ixLK K rfl) (pv 4) pe_int fun _ _ => rfl) fun _ _ => rfl)))), ?_⟩
    have K0 : KD da H H := KD.refl hda hdl
    have hla0 := hla
    obtain ⟨ds0, hda0, hdl0⟩ := K0.at_
    refine ⟨_, rfl, la, _, rfl, .inl hla0, ((A.map itR).length : Int), rfl, by rw [List.length_map]; omega, by rw [List.length_map]; omega, fun L hL => ?_⟩
    have nLd : L ≠ da := fun z => by rw [z, hda0] at hL; cases hL
    have nLa : ∀ {G : Hp}, SqL K G la (A.map itR) → ∀ u, G L = none → SqL K (upd G L u) la (A.map itR) := fun {G} h u hG => (same_new hG).seq h
    refine lc_range (lo := 0) (n := ((A.map itR).length : Int).toNat) (fun i H' => KD da H H' ∧ ∃ rows : List RowK, H' L = some (.lst (rows.map rkV)) ∧ rows.map (·.2.2) = List.range i ∧ ∀ r ∈ rows, H' r.1 = some (.lst [.int r.2.1, .int (r.2.2 : Int)]) ∧ H r.1 = none ∧ r.1 ≠ L) ⟨(KD.refl hda0 hdl0).new hL, [], upd_same, rfl, fun r hr => nomatch hr⟩ ?_ ?_
    · rintro i H1 hi ⟨k1, rows, hLl, hrk, hrr⟩
      rw [Int.toNat_natCast, List.length_map] at hi
      obtain ⟨ds1, hda1, hdl1⟩ := k1.at_
      refine ⟨rfl, ⟨_, rfl, da, 99, ds1, rfl, hda1, hdl1, by decide, fun v H2 _ _ hO => ?_⟩⟩
      have k2 := hO.kd
      refine ⟨_, rfl, (by show 2 ≤ sizeLine; decide), fun r hr2 => ?_⟩
      have hLl2 := k2.keep _ _ hLl nLd
      have nrL : r ≠ L := (ne_of_none hLl2 hr2).symm
      have hrl : rows.length = i := by
        have e := congrArg List.length hrk
        rw [List.length_map, List.length_range] at e
        exact e
      refine ⟨_, same_new hr2 _ _ hLl2, by rw [List.length_map, hrl, sizeLine_eq]; omega, ((k1.trans k2).new hr2).mine hL nLd, rows ++ [(r, v, i)], ?_, ?_, fun q hq => ?_⟩
      · rw [upd_same, List.map_append]
        rfl
      · rw [List.map_append, hrk, List.range_succ]
        rfl
      · rcases List.mem_append.mp hq with e | e
        · obtain ⟨e1, e2, e3⟩ := hrr q e
          have nqd : q.1 ≠ da := fun z => by rw [z, hda0] at e2; cases e2
          have e4 := k2.keep _ _ e1 nqd
          refine ⟨by rw [upd_ne e3]; exact same_new hr2 _ _ e4, e2, e3⟩
        · rw [List.mem_singleton.mp e]
          refine ⟨?_, (k1.trans k2).free hr2, nrL⟩
          rw [upd_ne nrL, upd_same, show (0 : Int) + (i : Int) = (i : Int) by omega]
    · rintro H1 ⟨k1, rows, hLl, hrk, hrr⟩
      rw [Int.toNat_natCast, List.length_map] at hrk
      refine ⟨L, RowK, rows, rkV, rkD, rfl, SqL.of hLl, fun r hr1 => Dp.lst (SqL.of (hrr r hr1).1) (.cons (.int _) (.cons (.int _) .nil)), rk_alike rows, rk_sortable rows, fun r _ => rk_depth r, fun M hM => ?_⟩
      have hperm : (rows.mergeSort (PySem.W.dataLe false rkD)).Perm rows := List.mergeSort_perm _ _
      generalize rows.mergeSort (PySem.W.dataLe false rkD) = srt at hperm hM ⊢
      have k2 : KD da H (upd H1 M (.lst (srt.map rkV))) := k1.new hM
      have hMl : (upd H1 M (HO.lst (srt.map rkV)) : Hp) M = some (HO.lst (srt.map rkV)) := upd_same
      have hrr2 : ∀ r ∈ srt, (upd H1 M (HO.lst (srt.map rkV)) : Hp) r.1 = some (.lst [.int r.2.1, .int (r.2.2 : Int)]) := fun r hr1 => same_new hM _ _ (hrr r (hperm.mem_iff.mp hr1)).1
      generalize upd H1 M (HO.lst (srt.map rkV)) = H2 at k2 hMl hrr2 ⊢
      have hla2 : SqL K H2 la (A.map itR) := k2.seq hda0 hla0 hne
      have hkb : ∀ r ∈ srt, r.2.2 < A.length := fun r hr1 => by
        have : r.2.2 ∈ rows.map (·.2.2) := List.mem_map.mpr ⟨r, hperm.mem_iff.mp hr1, rfl⟩
        rw [hrk] at this
        exact List.mem_range.mp this
      have hsl : srt.length ≤ 10 := by
        have e := congrArg List.length hrk
        rw [List.length_map, List.length_range] at e
        rw [hperm.length_eq]
        omega
      refine ⟨_, rfl, M, rfl, ⟨_, SqL.of hMl⟩, fun E2 hE => lc_it walk_list (fun i H' => Same H2 H' ∧ H' E2 = some (.lst ((pickI A (srt.take i)).map itR)) ∧ (pickI A (srt.take i)).length = i) ⟨same_new hE, upd_same, rfl⟩ (fun i H' _ h' => h'.1.seq (SqL.of hMl)) ?_ ?_⟩
      · rintro i v H3 H' hi ⟨s3, hEl, hpl⟩ ⟨rfl, hv⟩
        obtain ⟨r, hr1, rfl⟩ := map_at hv
        have hrm := List.mem_of_getElem? hr1
        obtain ⟨x, hx⟩ : ∃ x, A[r.2.2]? = some x := ⟨_, List.getElem?_eq_getElem (hkb r hrm)⟩
        refine ⟨rfl, ⟨_, rfl, _, rfl, r.1, _, 1, _, rfl, rfl, SqL.of (s3 _ _ (hrr2 r hrm)), atI1, la, _, _, _, rfl, rfl, s3.seq hla2, atI_nat (by rw [List.getElem?_map, hx]; rfl), _, hEl, ?_, fun b ob eb => ?_, ?_, ?_⟩⟩
        · rw [List.length_map] at hi
          rw [List.length_map, hpl, sizeLine_eq]
          omega
        · rw [upd_ne (ne_of_none eb hE)]
          exact s3 _ _ eb
        · rw [upd_same, List.take_add_one, hr1]
          show _ = some (HO.lst ((pickI A (srt.take i ++ [r])).map itR))
          unfold pickI
          rw [List.filterMap_append, List.map_append]
          simp [hx]
        · rw [List.take_add_one, hr1]
          show (pickI A (srt.take i ++ [r])).length = i + 1
          have hpl' : ((srt.take i).filterMap fun r => A[r.2.2]?).length = i := hpl
          unfold pickI
          rw [List.filterMap_append, List.length_append, hpl']
          simp [hx]
      · rintro H3 ⟨s3, hEl, _⟩
        rw [List.length_map, List.take_length] at hEl
        exact k H3 E2 _ (pick_perm hrk hperm) (k2.same s3) (k2.free hE) hEl

end
end Sam

set_option maxHeartbeats 8000000
set_option pp.maxSteps 600
namespace Sam
open PySem PySem.Spec PyProof.Rows L2
theorem keys_nodup : keysAll.Nodup := by decide +kernel
theorem cut0 (xs : List V) {v : Int} (h0 : 0 ≤ v) : cutV xs none (some v) = xs.take v.toNat := by
  obtain ⟨m, rfl⟩ : ∃ m : Nat, v = (m : Int) := ⟨v.toNat, by omega⟩
  unfold cutV
  rw [HT.sIx_none, HT.sIx_nat, List.drop_zero, Nat.sub_zero, Int.toNat_natCast]
  by_cases h : m ≤ xs.length
  · rw [Nat.min_eq_left h]
  · rw [Nat.min_eq_right (by omega), List.take_of_length_le (Nat.le_refl _), List.take_of_length_le (by omega)]
theorem idx5 {v : Int} (h0 : 0 ≤ v) (h1 : v < 5) : ∃ k : Nat, k < 3 ∧ atI [V.int 0, V.int 0, V.int 1, V.int 1, V.int 2] v = some (.int (k : Nat)) := by
  have h : v = 0 ∨ v = 1 ∨ v = 2 ∨ v = 3 ∨ v = 4 := by omega
  rcases h with rfl | rfl | rfl | rfl | rfl
  · exact ⟨0, by decide, atI_nat (j := 0) rfl⟩
  · exact ⟨0, by decide, atI_nat (j := 1) rfl⟩
  · exact ⟨1, by decide, atI_nat (j := 2) rfl⟩
  · exact ⟨1, by decide, atI_nat (j := 3) rfl⟩
  · exact ⟨2, by decide, atI_nat (j := 4) rfl⟩
theorem wt3 {k : Nat} (h : k < 3) {a b : Int} (ha : 0 ≤ a ∧ a < 9) (hb : 0 ≤ b ∧ b < 3) : ∃ z : Int, 0 < z ∧ z ≤ 1000 ∧ atI [V.int (1 + a), V.int (1 + b), V.int 1000] (k : Nat) = some (.int z) := by
  match k, h with
  | 0, _ => exact ⟨1 + a, by omega, by omega, atI_nat (j := 0) rfl⟩
  | 1, _ => exact ⟨1 + b, by omega, by omega, atI_nat (j := 1) rfl⟩
  | 2, _ => exact ⟨1000, by decide, by decide, atI_nat (j := 2) rfl⟩
theorem grp4 {v : Int} (h0 : 0 ≤ v) (h1 : v < 4) : ∃ g : Str, atI [V.str "red", V.str "blue", V.str "k", V.str "gold"] v = some (.str g) := by
  have h : v = 0 ∨ v = 1 ∨ v = 2 ∨ v = 3 := by omega
  rcases h with rfl | rfl | rfl | rfl
  · exact ⟨_, atI_nat (j := 0) rfl⟩
  · exact ⟨_, atI_nat (j := 1) rfl⟩
  · exact ⟨_, atI_nat (j := 2) rfl⟩
  · exact ⟨_, atI_nat (j := 3) rfl⟩
section
variable {P : Program} {w : World} {K : PySem.W.Frag} {mg : Str → Option Value} {base : Heap}
theorem ok_l_stream (T : Tx K mg) : Cal P w K mg base 2 "_law_stream" ["_law_draws_here", "_law_most"] (spStream K) := by
  obtain ⟨fd, F⟩ := T.d_l_stream
  refine ⟨_, fd, T.g_law_stream, F.kp, F.binds (ps := ["_law_draws_here", "_law_most"]) fun _ _ _ _ _ _ us hl => match us, hl with | [_, _], _ => rfl, F.ok sc_l_stream (fun vs H Q E h => ?_) (fun cdv A outer s H vs Q E hr h => ?_)⟩
  · obtain ⟨da, ds, rfl, _⟩ := h
    rfl
  · obtain ⟨da, ds, rfl, hda, hdl, k⟩ := h
    have nd := sc_l_stream.nd
    refine ⟨_, pss_cons (ps_set (i := 2) nd rfl (.inr rfl) (pe_lst pa_nil))
      (pss_cons (ps_for PassesOwn.never rfl (pi_list (pe_slice sl_list (pe_lst (pa_cons pe_str (pa_cons pe_str (pa_cons pe_str (pa_cons pe_str (pa_cons pe_str (pa_cons pe_str (pa_cons pe_str (pa_cons pe_str pa_nil))))))))) po_none (po_some (pe_f (ok_l_take T) hr rfl (pa_cons (pv 0) (pa_cons (pe_op op_add (pv 1) pe_int) pa_nil)))))) (pg_name (i := 3) nd rfl (.inl rfl))
        (pss_cons (ps_set (i := 4) nd rfl (.inl rfl) (pe_ix ix_list (pe_lst (pa_cons (pe_op op_add pe_int (pe_f (ok_l_take T) hr rfl (pa_cons (pv 0) (pa_cons pe_int pa_nil)))) (pa_cons (pe_op op_add pe_int (pe_f (ok_l_take T) hr rfl (pa_cons (pv 0) (pa_cons pe_int pa_nil)))) (pa_cons pe_int pa_nil)))) (pe_ix ix_list (pe_lst (pa_cons pe_int (pa_cons pe_int (pa_cons pe_int (pa_cons pe_int (pa_cons pe_int pa_nil)))))) (pe_f (ok_l_take T) hr rfl (pa_cons (pv 0) (pa_cons pe_int pa_nil))) fun _ _ => rfl) fun _ _ => rfl))
        (pss_one (ps_expr (pe_bm PySem.F.plainAttrs_list PySem.F.slot_list_append PySem.F.type_list_append mt_append (pv 2) (pa_cons (pe_tup (pa_cons (pv 3) (pa_cons (pe_ix ix_list (pe_lst (pa_cons pe_str (pa_cons pe_str (pa_cons pe_str (pa_cons pe_str pa_nil))))) (pe_f (ok_l_take T) hr rfl (pa_cons (pv 0) (pa_cons pe_int pa_nil))) fun _ _ => rfl) (pa_cons (pv 4) (pa_cons (pe_op op_sub (pe_f (ok_l_take T) hr rfl (pa_cons (pv 0) (pa_cons pe_int pa_nil))) pe_int) pa_nil))))) pa_nil))))))
      (pss_cons (ps_set (i := 5) nd rfl (.inl rfl) (pe_callB (cr_sortD hr.units) (by rfl) T.f_sorted (by decide +kernel) (pa_cons
        (pe_lc (own := [("_law_k", 6)]) (g := gName 6) (tt := tYes) rfl nd (pi_range1 rfl T.f_range (pa_cons (pe_callB call_len_seq (by rfl) T.f_len PySem.boot_len (pa_cons (pv 2) pa_nil)) pa_nil)) (blkOk_by (N := ["_law_draws_here", "_law_most", "_law_items", "_law_key", "_law_weight", "_law_order", "_law_k", "_law_row"]) (sc := defScope s_l_stream) (by decide +kernel))
          (fun _ _ _ _ _ => pg_name (i := 6) nd rfl (Or.inl rfl)) (fun _ _ _ _ _ => pts_nil) (fun _ _ _ _ _ => pe_lst (pa_cons (pe_f (ok_l_take T) hr rfl (pa_cons (pv 0) (pa_cons pe_int pa_nil))) (pa_cons (pv 6) pa_nil)))) pa_nil)))
      (pss_one (ps_ret (pe_lc (own := [("_law_row", 7)]) (g := gName 7) (tt := tYes) rfl nd (pi_list (pv 5)) (blkOk_by (N := ["_law_draws_here", "_law_most", "_law_items", "_law_key", "_law_weight", "_law_order", "_law_k", "_law_row"]) (sc := defScope s_l_stream) (by decide +kernel))
        (fun _ _ _ _ _ => pg_name (i := 7) nd rfl (Or.inl rfl)) (fun _ _ _ _ _ => pts_nil) (fun _ _ _ _ _ => pe_ix (ixLK K rfl) (pv 2) (pe_ix (ixLK K rfl) (pv 7) pe_int fun _ _ => rfl) fun _ _ => rfl)))))), ?_⟩
    refine ⟨Nat.zero_le _, fun LI hLI => ?_⟩
    have nLd : LI ≠ da := fun z => by rw [z, hda] at hLI; cases hLI
    have K1 := (KD.refl hda hdl).new (u := .lst []) hLI
    -- the keys
    refine ⟨(by show 8 ≤ sizeLine; decide), fun KL hKL => ?_⟩
    have K2 := K1.new (u := .lst (keysAll.map V.str)) hKL
    obtain ⟨ds2, hda2, hdl2⟩ := K2.at_
    refine ⟨_, rfl, _, rfl, _, _, rfl, rfl, da, 6, ds2, rfl, hda2, hdl2, by decide, fun v H3 hv0 hv1 hO => ?_⟩
    have k3 := hO.kd
    have K3 := K2.trans k3
    have nKd : KL ≠ da := K1.ne hKL
    have hKL3 : H3 KL = some (.lst (keysAll.map V.str)) := k3.keep _ _ upd_same nKd
    have hLI2 : upd (upd H LI (.lst [])) KL (.lst (keysAll.map V.str)) LI = some (.lst []) := same_new hKL _ _ upd_same
    have hLI3 : H3 LI = some (.lst []) := k3.keep _ _ hLI2 nLd
    refine ⟨v, rfl, KL, keysAll.map V.str, rfl, SqL.of hKL3, fun SL hSL => ?_⟩
    rw [cut0 _ hv0, ← List.map_take]
    have hn5 : v.toNat ≤ 5 := by omega
    generalize v.toNat = n at hn5 hSL ⊢
    have K4 := K3.new (u := .lst ((keysAll.take n).map V.str)) hSL
    have nSd : SL ≠ da := K3.ne hSL
    have nSL : SL ≠ LI := (ne_of_none hLI3 hSL).symm
    have hLI4 : upd H3 SL (.lst ((keysAll.take n).map V.str)) LI = some (.lst []) := same_new hSL _ _ hLI3
    have hSLH : H SL = none := K3.free hSL
    refine ⟨SL, rfl, ⟨_, SqL.of upd_same⟩, for_it walk_list (fun i σ H' => ∃ (o3 o4 : Option V) (B : List Itm), σ = [some (.ref da), some (.int 5), some (.ref LI), o3, o4, none, none, none] ∧ KD da H H' ∧ H' SL = some (.lst ((keysAll.take n).map V.str)) ∧ H' LI = some (.lst (B.map itR)) ∧ B.map (·.key) = (keysAll.take n).take i ∧ ∀ x ∈ B, ItAt K H' x ∧ ItOk x)
      ⟨none, none, [], rfl, K4, upd_same, hLI4, rfl, fun x hx => nomatch hx⟩ (fun i σ H' _ ⟨_, _, _, _, _, h', _⟩ => SqL.of h') ?_ ?_⟩
    · rintro i vk σ H5 H' hi ⟨o3, o4, B, rfl, K5, hS5, hL5, hBk, hBi⟩ ⟨rfl, hvk⟩
      obtain ⟨key, hkey, rfl⟩ := map_at hvk
      obtain ⟨ds5, hda5, hdl5⟩ := K5.at_
      -- the weight
      refine ⟨_, rfl, da, 9, ds5, rfl, hda5, hdl5, by decide, fun v1 H6 h10 h11 hO1 => ⟨_, _, rfl, rfl, ?_⟩⟩
      obtain ⟨ds6, hda6, hdl6⟩ := hO1.kd.at_
      refine ⟨_, rfl, da, 3, ds6, rfl, hda6, hdl6, by decide, fun v2 H7 h20 h21 hO2 => ⟨_, _, rfl, rfl, (by show 3 ≤ sizeLine; decide), fun WL hWL => ⟨(by show 5 ≤ sizeLine; decide), fun IL hIL => ?_⟩⟩⟩
      have k7 := hO1.kd.trans hO2.kd
      have k8 := k7.new (u := .lst [V.int (1 + v1), V.int (1 + v2), V.int 1000]) hWL
      have k9 := k8.new (u := .lst [V.int 0, V.int 0, V.int 1, V.int 1, V.int 2]) hIL
      obtain ⟨ds9, hda9, hdl9⟩ := k9.at_
      refine ⟨_, rfl, da, 5, ds9, rfl, hda9, hdl9, by decide, fun v3 H10 h30 h31 hO3 => ?_⟩
      have k10 := k9.trans hO3.kd
      obtain ⟨j, hj3, hj⟩ := idx5 h30 h31
      obtain ⟨z, hz0, hz1, hz⟩ := wt3 hj3 ⟨h10, h11⟩ ⟨h20, h21⟩
      have nIL : IL ≠ da := k8.ne hIL
      have nWL : WL ≠ da := k7.ne hWL
      have hIL10 := hO3.kd.keep _ _ (upd_same (H := upd H7 WL (.lst [V.int (1 + v1), V.int (1 + v2), V.int 1000])) (a := IL) (o := .lst [V.int 0, V.int 0, V.int 1, V.int 1, V.int 2])) nIL
      have hWL10 := hO3.kd.keep _ _ (same_new (o := .lst [V.int 0, V.int 0, V.int 1, V.int 1, V.int 2]) hIL _ _ (upd_same (H := H7) (a := WL) (o := .lst [V.int (1 + v1), V.int (1 + v2), V.int 1000]))) nWL
      refine ⟨IL, _, v3, _, rfl, rfl, SqL.of hIL10, hj, WL, _, _, _, rfl, rfl, SqL.of hWL10, hz, ?_⟩
      -- the item
      have hL10 := k10.keep _ _ hL5 nLd
      refine ⟨_, rfl, .inl ⟨rfl, _, SqL.of hL10⟩, _, rfl, (by show 4 ≤ sizeLine; decide), fun GL hGL => ?_⟩
      have k11 := k10.new (u := .lst [V.str "red", V.str "blue", V.str "k", V.str "gold"]) hGL
      obtain ⟨ds11, hda11, hdl11⟩ := k11.at_
      refine ⟨_, rfl, da, 4, ds11, rfl, hda11, hdl11, by decide, fun v4 H12 h40 h41 hO4 => ?_⟩
      have k12 := k11.trans hO4.kd
      obtain ⟨g, hg⟩ := grp4 h40 h41
      have nGL : GL ≠ da := k10.ne hGL
      have hGL12 := hO4.kd.keep _ _ (upd_same (H := H10) (a := GL) (o := .lst [V.str "red", V.str "blue", V.str "k", V.str "gold"])) nGL
      obtain ⟨ds12, hda12, hdl12⟩ := k12.at_
      refine ⟨GL, _, v4, _, rfl, rfl, SqL.of hGL12, hg, _, rfl, _, rfl, da, 21, ds12, rfl, hda12, hdl12, by decide, fun v5 H13 h50 h51 hO5 => ⟨_, _, rfl, rfl, (by show 4 ≤ sizeLine; decide), fun t ht => ?_⟩⟩
      have k13 := k12.trans hO5.kd
      have k14 := k13.new (u := .tup [.str key, .str g, .int z, .int (v5 - 10)]) ht
      have hL14 := k14.keep _ _ hL5 nLd
      have hBl : B.length ≤ 5 := by
        have e := congrArg List.length hBk
        rw [List.length_map, List.length_take, List.length_take] at e
        omega
      refine ⟨LI, _, _, rfl, rfl, hL14, (by rw [List.length_map, sizeLine_eq]; omega), ?_⟩
      have tt : Ts (upd H13 t (.tup [.str key, .str g, .int z, .int (v5 - 10)])) (upd (upd H13 t (.tup [.str key, .str g, .int z, .int (v5 - 10)])) LI (.lst (B.map itR ++ [.ref t]))) := ts_lst hL14
      refine ⟨_, _, B ++ [⟨t, key, g, z, v5 - 10⟩], rfl, (K5.trans k14).mine hLI nLd, ?_, ?_, ?_, fun x hx => ?_⟩
      · rw [upd_ne nSL]
        exact k14.keep _ _ hS5 nSd
      · rw [upd_same, List.map_append]
        rfl
      · rw [List.map_append, hBk, List.take_add_one (l := keysAll.take n), hkey]
        rfl
      · rcases List.mem_append.mp hx with e | e
        · exact ⟨((hBi x e).1.ts (k14.ts hda5)).ts tt, (hBi x e).2⟩
        · rw [List.mem_singleton.mp e]
          exact ⟨SqT.of (tt.tup _ _ upd_same), hz0, hz1⟩
    · rintro σ H0 ⟨o3, o4, A, rfl, K0, hS5, hLI0, hBk, hBi⟩
      rw [List.length_map, List.take_length] at hBk
      have hla0 : SqL K H0 LI (A.map itR) := SqL.of hLI0
      have hne : LI ≠ da := nLd
      have hA5 : A.length ≤ 5 := by
        have e := congrArg List.length hBk
        rw [List.length_map, List.length_take] at e
        omega
      have hA10 : A.length ≤ 10 := by omega
      clear nLd
      obtain ⟨ds0, hda0, hdl0⟩ := K0.at_
      refine ⟨_, rfl, LI, _, rfl, .inl hla0, ((A.map itR).length : Int), rfl, by rw [List.length_map]; omega, by rw [List.length_map]; omega, fun L hL => ?_⟩
      have nLd : L ≠ da := fun z => by rw [z, hda0] at hL; cases hL
      have nLa : ∀ {G : Hp}, SqL K G LI (A.map itR) → ∀ u, G L = none → SqL K (upd G L u) LI (A.map itR) := fun {G} h u hG => (same_new hG).seq h
      refine lc_range (lo := 0) (n := ((A.map itR).length : Int).toNat) (fun i H' => KD da H0 H' ∧ ∃ rows : List RowK, H' L = some (.lst (rows.map rkV)) ∧ rows.map (·.2.2) = List.range i ∧ ∀ r ∈ rows, H' r.1 = some (.lst [.int r.2.1, .int (r.2.2 : Int)]) ∧ H0 r.1 = none ∧ r.1 ≠ L) ⟨(KD.refl hda0 hdl0).new hL, [], upd_same, rfl, fun r hr => nomatch hr⟩ ?_ ?_
      · rintro i H1 hi ⟨k1, rows, hLl, hrk, hrr⟩
        rw [Int.toNat_natCast, List.length_map] at hi
        obtain ⟨ds1, hda1, hdl1⟩ := k1.at_
        refine ⟨rfl, ⟨_, rfl, da, 99, ds1, rfl, hda1, hdl1, by decide, fun v H2 _ _ hO => ?_⟩⟩
        have k2 := hO.kd
        refine ⟨_, rfl, (by show 2 ≤ sizeLine; decide), fun r hr2 => ?_⟩
        have hLl2 := k2.keep _ _ hLl nLd
        have nrL : r ≠ L := (ne_of_none hLl2 hr2).symm
        have hrl : rows.length = i := by
          have e := congrArg List.length hrk
          rw [List.length_map, List.length_range] at e
          exact e
        refine ⟨_, same_new hr2 _ _ hLl2, by rw [List.length_map, hrl, sizeLine_eq]; omega, ((k1.trans k2).new hr2).mine hL nLd, rows ++ [(r, v, i)], ?_, ?_, fun q hq => ?_⟩
        · rw [upd_same, List.map_append]
          rfl
        · rw [List.map_append, hrk, List.range_succ]
          rfl
        · rcases List.mem_append.mp hq with e | e
          · obtain ⟨e1, e2, e3⟩ := hrr q e
            have nqd : q.1 ≠ da := fun z => by rw [z, hda0] at e2; cases e2
            have e4 := k2.keep _ _ e1 nqd
            refine ⟨by rw [upd_ne e3]; exact same_new hr2 _ _ e4, e2, e3⟩
          · rw [List.mem_singleton.mp e]
            refine ⟨?_, (k1.trans k2).free hr2, nrL⟩
            rw [upd_ne nrL, upd_same, show (0 : Int) + (i : Int) = (i : Int) by omega]
      · rintro H1 ⟨k1, rows, hLl, hrk, hrr⟩
        rw [Int.toNat_natCast, List.length_map] at hrk
        refine ⟨L, RowK, rows, rkV, rkD, rfl, SqL.of hLl, fun r hr1 => Dp.lst (SqL.of (hrr r hr1).1) (.cons (.int _) (.cons (.int _) .nil)), rk_alike rows, rk_sortable rows, fun r _ => rk_depth r, fun M hM => ?_⟩
        have hperm : (rows.mergeSort (PySem.W.dataLe false rkD)).Perm rows := List.mergeSort_perm _ _
        generalize rows.mergeSort (PySem.W.dataLe false rkD) = srt at hperm hM ⊢
        have k2 : KD da H0 (upd H1 M (.lst (srt.map rkV))) := k1.new hM
        have hMl : (upd H1 M (HO.lst (srt.map rkV)) : Hp) M = some (HO.lst (srt.map rkV)) := upd_same
        have hrr2 : ∀ r ∈ srt, (upd H1 M (HO.lst (srt.map rkV)) : Hp) r.1 = some (.lst [.int r.2.1, .int (r.2.2 : Int)]) := fun r hr1 => same_new hM _ _ (hrr r (hperm.mem_iff.mp hr1)).1
        generalize upd H1 M (HO.lst (srt.map rkV)) = H2 at k2 hMl hrr2 ⊢
        have hla2 : SqL K H2 LI (A.map itR) := k2.seq hda0 hla0 hne
        have hkb : ∀ r ∈ srt, r.2.2 < A.length := fun r hr1 => by
          have : r.2.2 ∈ rows.map (·.2.2) := List.mem_map.mpr ⟨r, hperm.mem_iff.mp hr1, rfl⟩
          rw [hrk] at this
          exact List.mem_range.mp this
        have hsl : srt.length ≤ 10 := by
          have e := congrArg List.length hrk
          rw [List.length_map, List.length_range] at e
          rw [hperm.length_eq]
          omega
        refine ⟨_, rfl, M, rfl, ⟨_, SqL.of hMl⟩, fun E2 hE => lc_it walk_list (fun i H' => Same H2 H' ∧ H' E2 = some (.lst ((pickI A (srt.take i)).map itR)) ∧ (pickI A (srt.take i)).length = i) ⟨same_new hE, upd_same, rfl⟩ (fun i H' _ h' => h'.1.seq (SqL.of hMl)) ?_ ?_⟩
        · rintro i v H3 H' hi ⟨s3, hEl, hpl⟩ ⟨rfl, hv⟩
          obtain ⟨r, hr1, rfl⟩ := map_at hv
          have hrm := List.mem_of_getElem? hr1
          obtain ⟨x, hx⟩ : ∃ x, A[r.2.2]? = some x := ⟨_, List.getElem?_eq_getElem (hkb r hrm)⟩
          refine ⟨rfl, ⟨_, rfl, _, rfl, r.1, _, 1, _, rfl, rfl, SqL.of (s3 _ _ (hrr2 r hrm)), atI1, LI, _, _, _, rfl, rfl, s3.seq hla2, atI_nat (by rw [List.getElem?_map, hx]; rfl), _, hEl, ?_, fun b ob eb => ?_, ?_, ?_⟩⟩
          · rw [List.length_map] at hi
            rw [List.length_map, hpl, sizeLine_eq]
            omega
          · rw [upd_ne (ne_of_none eb hE)]
            exact s3 _ _ eb
          · rw [upd_same, List.take_add_one, hr1]
            show _ = some (HO.lst ((pickI A (srt.take i ++ [r])).map itR))
            unfold pickI
            rw [List.filterMap_append, List.map_append]
            simp [hx]
          · rw [List.take_add_one, hr1]
            show (pickI A (srt.take i ++ [r])).length = i + 1
            have hpl' : ((srt.take i).filterMap fun r => A[r.2.2]?).length = i := hpl
            unfold pickI
            rw [List.filterMap_append, List.length_append, hpl']
            simp [hx]
        · rintro H3 ⟨s3, hEl, _⟩
          rw [List.length_map, List.take_length] at hEl
          have hpp := pick_perm hrk hperm
          have htt := (k2.ts hda0).trans (.of_same s3)
          refine k H3 E2 _ (K0.trans (k2.same s3)) (K0.free (k2.free hE)) hEl (fun x hx => ?_) ?_ ?_
          · have hxA := hpp.mem_iff.mp hx
            refine ⟨(hBi x hxA).1.ts htt, (hBi x hxA).2, ?_⟩
            have : x.key ∈ A.map (·.key) := List.mem_map.mpr ⟨x, hxA, rfl⟩
            rw [hBk] at this
            exact List.mem_of_mem_take this
          · rw [(hpp.map _).nodup_iff, hBk]
            exact keys_nodup.sublist (List.take_sublist _ _)
          · rw [hpp.length_eq]
            exact hA5

end
end Sam

set_option maxHeartbeats 4000000
set_option pp.maxSteps 600
namespace Sam
open PySem PySem.Spec PyProof.Rows L2
/-! ### the law's plain side -/
theorem mk_ru {K : PySem.W.Frag} {H : Hp} {D : Addr} {o : V} {ks : List Str} {kvs : List (Key × V)} {ro : Rule} (hd : H D = some (.dK kvs)) (hk : kvs.map (·.1) = ks.map Sum.inr) (hks : ks = [] ∨ ks = [sR] ∨ ks = [sB] ∨ ks = [sR, sB])
    (hv : ∀ g ∈ ks, ∃ v r, valV kvs (.inr g) = some v ∧ RuleV K H v r ∧ 1 ≤ r.2 ∧ r.2 ≤ 2) (ho : RuleV K H o ro ∧ 1 ≤ ro.2 ∧ ro.2 ≤ 2) (hall : ∀ p ∈ kvs, ∃ r : Rule, RuleV K H p.2 r ∧ 1 ≤ r.2 ∧ r.2 ≤ 2) : ∃ gs rs, RuA K H D o ks gs rs kvs := by
  obtain ⟨ho1, ho2, ho3⟩ := ho
  rcases hks with rfl | rfl | rfl | rfl
  · refine ⟨[], [ro], hd, hk, .inl ⟨rfl, rfl⟩, ⟨rfl, by simp, fun r hr => ?_, fun r hr => ?_⟩, fun g hg => (nomatch hg), ho1, hall⟩
    · rw [List.mem_singleton.mp hr]; exact ho2
    · rw [List.mem_singleton.mp hr]; exact ho3
  · obtain ⟨v, r, h1, h2, h3, h4⟩ := hv sR (by simp)
    refine ⟨[sR], [r, ro], hd, hk, .inr (.inl ⟨rfl, rfl⟩), ⟨rfl, by simp, fun q hq => ?_, fun q hq => ?_⟩, fun g hg => ?_, ho1, hall⟩
    · rcases List.mem_cons.mp hq with e | e
      · rw [e]; exact h3
      · rw [List.mem_singleton.mp e]; exact ho2
    · rcases List.mem_cons.mp hq with e | e
      · rw [e]; exact h4
      · rw [List.mem_singleton.mp e]; exact ho3
    · rw [List.mem_singleton.mp hg]
      refine ⟨v, h1, ?_⟩
      rw [show pix [sR] sR = 0 from by decide +kernel]
      exact h2
  · obtain ⟨v, r, h1, h2, h3, h4⟩ := hv sB (by simp)
    refine ⟨[sB], [r, ro], hd, hk, .inr (.inr (.inl ⟨rfl, rfl⟩)), ⟨rfl, by simp, fun q hq => ?_, fun q hq => ?_⟩, fun g hg => ?_, ho1, hall⟩
    · rcases List.mem_cons.mp hq with e | e
      · rw [e]; exact h3
      · rw [List.mem_singleton.mp e]; exact ho2
    · rcases List.mem_cons.mp hq with e | e
      · rw [e]; exact h4
      · rw [List.mem_singleton.mp e]; exact ho3
    · rw [List.mem_singleton.mp hg]
      refine ⟨v, h1, ?_⟩
      rw [show pix [sB] sB = 0 from by decide +kernel]
      exact h2
  · obtain ⟨v, r, h1, h2, h3, h4⟩ := hv sR (by simp)
    obtain ⟨v', r', h1', h2', h3', h4'⟩ := hv sB (by simp)
    refine ⟨[sB, sR], [r', r, ro], hd, hk, .inr (.inr (.inr ⟨rfl, rfl⟩)), ⟨rfl, by simp, fun q hq => ?_, fun q hq => ?_⟩, fun g hg => ?_, ho1, hall⟩
    · rcases List.mem_cons.mp hq with e | e
      · rw [e]; exact h3'
      · rcases List.mem_cons.mp e with e | e
        · rw [e]; exact h3
        · rw [List.mem_singleton.mp e]; exact ho2
    · rcases List.mem_cons.mp hq with e | e
      · rw [e]; exact h4'
      · rcases List.mem_cons.mp e with e | e
        · rw [e]; exact h4
        · rw [List.mem_singleton.mp e]; exact ho3
    · rcases List.mem_cons.mp hg with e | e
      · rw [e]
        refine ⟨v, h1, ?_⟩
        rw [show pix [sB, sR] sR = 1 from by decide +kernel]
        exact h2
      · rw [List.mem_singleton.mp e]
        refine ⟨v', h1', ?_⟩
        rw [show pix [sB, sR] sB = 0 from by decide +kernel]
        exact h2'
def rowD (y : RowQ) : PyData := .tuple [outD y.1, .tuple [.int y.2.num, .int y.2.den]]
def lawD (L : List RowQ) : PyData := .list (L.map rowD)
theorem rows_dp {K : PySem.W.Frag} {H : Hp} {zs : List V} {L : List RowQ} (h : RowL K H zs L) : DpAll K H zs (L.map rowD) := by
  induction h with
  | nil => exact .nil
  | cons r _ ih =>
    obtain ⟨t, o, c, rfl, h1, h2, h3⟩ := r
    exact .cons (.tup h1 (.cons h2.dp (.cons h3.dp .nil))) ih
theorem strs_lay {l : List Str} (h : ∀ k ∈ l, PyData.strOk k = true) : PyData.canLayAll0 (l.map PyData.str) = true := by
  induction l with
  | nil => simp [PyData.canLayAll0]
  | cons x l ih =>
    show PyData.canLayAll0 (.str x :: l.map .str) = true
    rw [PyData.canLayAll0, PyData.canLay0, h x List.mem_cons_self, ih fun k hk => h k (List.mem_cons_of_mem _ hk)]
    rfl
theorem out_lay {o : Outcome} (h : ∀ y ∈ o, ∀ k ∈ y.2, PyData.strOk k = true) : (outD o).canLay0 = true := by
  rw [outD, PyData.canLay0]
  induction o with
  | nil => simp [PyData.canLayAll0]
  | cons y o ih =>
    show PyData.canLayAll0 (outD1 y :: o.map outD1) = true
    rw [PyData.canLayAll0, ih fun z hz => h z (List.mem_cons_of_mem _ hz), outD1, PyData.canLay0]
    simp [PyData.canLayAll0, PyData.canLay0, strs_lay (h y List.mem_cons_self)]
theorem law_shaped {L : List RowQ} (h : ∀ y ∈ L, ∀ z ∈ y.1, ∀ k ∈ z.2, PyData.strOk k = true) : SeqAt.shaped (lawD L) = true := by
  have h1 : (lawD L).canLay0 = true := by
    rw [lawD, PyData.canLay0]
    induction L with
    | nil => simp [PyData.canLayAll0]
    | cons y L ih =>
      show PyData.canLayAll0 (rowD y :: L.map rowD) = true
      rw [PyData.canLayAll0, ih fun z hz => h z (List.mem_cons_of_mem _ hz), rowD, PyData.canLay0]
      simp [PyData.canLayAll0, PyData.canLay0, out_lay (h y List.mem_cons_self)]
  have h2 : PyData.depthAll (L.map rowD) ≤ 4 := by
    clear h h1
    induction L with
    | nil => simp [PyData.depthAll]
    | cons y L ih =>
      show PyData.depthAll (rowD y :: L.map rowD) ≤ 4
      rw [PyData.depthAll]
      refine Nat.max_le.mpr ⟨?_, ih⟩
      have := depth_out y.1
      rw [rowD]
      simp [PyData.depth, PyData.depthAll]
      omega
  have h3 : (lawD L).depth ≤ 64 := by
    rw [lawD, PyData.depth]
    omega
  unfold SeqAt.shaped
  rw [h1, decide_eq_true h3]
  rfl
theorem keys_ok : ∀ k ∈ keysAll, PyData.strOk k = true := by decide +kernel
theorem law_keys {gs : List Str} {A : List Itm} {t : Tr Outcome} (g : Good (OutOk gs A) t 168) (hA : ∀ x ∈ A, x.key ∈ keysAll) : ∀ y ∈ lawL (rowsT t), ∀ z ∈ y.1, ∀ k ∈ z.2, PyData.strOk k = true := fun y hy z hz k hk => by
  have h1 : (y.1, y.2) ∈ accQ (rowsT t) := (List.mergeSort_perm _ _).mem_iff.mp hy
  have h2 := ((accQ_mem (rowsT t) y.1 y.2).mp h1).1
  obtain ⟨r, hr, e⟩ := List.mem_map.mp h2
  obtain ⟨l, hl, rfl⟩ := List.mem_map.mp hr
  have h3 := (leaf_ok t g l hl).1
  rw [← e] at hz
  obtain ⟨x, hx, e2⟩ := List.mem_map.mp (h3.2 z hz k hk)
  rw [← e2]
  exact keys_ok _ (hA x hx)
/-- one list, any order: one law -/
theorem law_perm {gs : List Str} {rs : List Rule} (R : RsOk gs rs) {A B : List Itm} (hp : A.Perm B) (hA : ∀ x ∈ A, ItOk x) (hl : A.length ≤ 4) : lawL (rowsT (wholeT srtI gs rs [A])) = lawL (rowsT (wholeT srtI gs rs [B])) := by
  have hB : ∀ x ∈ B, ItOk x := fun x hx => hA x (hp.mem_iff.mpr hx)
  have hlB : B.length ≤ 4 := by rw [← hp.length_eq]; exact hl
  have gA := good_one' R A hA hl
  have gB := good_one' R B hB hlB
  have fA := (good_one srtI_ok R A hA hl).2
  have fB := (good_one srtI_ok R B hB hlB).2
  refine lawL_eq (rows_ok gA fA).pos (rows_ok gB fB).pos fun o => ?_
  rw [pr_rows gA, pr_rows gB, whole_one srtI_ok R.len R.lo A fun x hx => (hA x hx).1, whole_one srtI_ok R.len R.lo B fun x hx => (hB x hx).1]
  exact SL_perm hp _
/-- cut in two -/
theorem law_cut {gs : List Str} {rs : List Rule} (R : RsOk gs rs) {A B C : List Itm} (hp : A.Perm (B ++ C)) (hA : ∀ x ∈ A, ItOk x) (hl : A.length ≤ 4) : lawL (rowsT (wholeT srtI gs rs [B, C])) = lawL (rowsT (wholeT srtI gs rs [A])) := by
  have hBC : ∀ x ∈ B ++ C, ItOk x := fun x hx => hA x (hp.mem_iff.mpr hx)
  have hB : ∀ x ∈ B, ItOk x := fun x hx => hBC x (List.mem_append_left _ hx)
  have hC : ∀ x ∈ C, ItOk x := fun x hx => hBC x (List.mem_append_right _ hx)
  have hlB : B.length + C.length ≤ 4 := by
    have := hp.length_eq
    rw [List.length_append] at this
    omega
  have gA := good_one' R A hA hl
  have gB := good_two' R B C hB hC hlB
  have fA := (good_one srtI_ok R A hA hl).2
  have fB := (good_two srtI_ok R B C hB hC hlB).2
  refine lawL_eq (rows_ok gB fB).pos (rows_ok gA fA).pos fun o => ?_
  rw [pr_rows gA, pr_rows gB, whole_one srtI_ok R.len R.lo A fun x hx => (hA x hx).1, whole_two srtI_ok R.len R.lo B C (fun x hx => (hB x hx).1) fun x hx => (hC x hx).1]
  exact (SL_perm hp _).symm
end Sam

set_option maxHeartbeats 8000000
set_option pp.maxSteps 600
namespace Sam
open PySem PySem.Spec PyProof.Rows L2
theorem kind2 {v : Int} (h0 : 0 ≤ v) (h1 : v < 2) : ∃ b : Bool, atI [V.str "uniform", V.str "weighted"] v = some (.str (knd b)) := by
  have h : v = 0 ∨ v = 1 := by omega
  rcases h with rfl | rfl
  · exact ⟨true, atI_nat (j := 0) rfl⟩
  · exact ⟨false, atI_nat (j := 1) rfl⟩
theorem size4 {v : Int} (h0 : 0 ≤ v) (h1 : v < 4) : ∃ n : Nat, n ≤ 4 ∧ atI [V.int 3, V.int 3, V.int 3, V.int 4] v = some (.int (n : Nat)) := by
  have h : v = 0 ∨ v = 1 ∨ v = 2 ∨ v = 3 := by omega
  rcases h with rfl | rfl | rfl | rfl
  · exact ⟨3, by decide, atI_nat (j := 0) rfl⟩
  · exact ⟨3, by decide, atI_nat (j := 1) rfl⟩
  · exact ⟨3, by decide, atI_nat (j := 2) rfl⟩
  · exact ⟨4, by decide, atI_nat (j := 3) rfl⟩
theorem cutd (xs : List V) {v : Int} (h0 : 0 ≤ v) : cutV xs (some v) none = xs.drop v.toNat := by
  obtain ⟨m, rfl⟩ : ∃ m : Nat, v = (m : Int) := ⟨v.toNat, by omega⟩
  unfold cutV
  rw [HT.sIx_none, HT.sIx_nat, Int.toNat_natCast, List.take_of_length_le (by rw [List.length_drop]; exact Nat.le_refl _)]
  by_cases h : m ≤ xs.length
  · rw [Nat.min_eq_left h]
  · rw [Nat.min_eq_right (by omega), List.drop_eq_nil_of_le (Nat.le_refl _), List.drop_eq_nil_of_le (by omega)]
/-- the groups put so far -/
def KsAt (i : Nat) (ks : List Str) : Prop := (i = 0 ∧ ks = []) ∨ (i = 1 ∧ (ks = [] ∨ ks = [sR])) ∨ (i = 2 ∧ (ks = [] ∨ ks = [sR] ∨ ks = [sB] ∨ ks = [sR, sB]))
theorem ks_skip {i : Nat} {ks : List Str} (hi : i < 2) (h : KsAt i ks) : KsAt (i + 1) ks := by
  rcases h with ⟨rfl, rfl⟩ | ⟨rfl, h⟩ | ⟨rfl, h⟩
  · exact .inr (.inl ⟨rfl, .inl rfl⟩)
  · exact .inr (.inr ⟨rfl, h.elim .inl fun e => .inr (.inl e)⟩)
  · omega
theorem ks_put {i : Nat} {ks : List Str} {g : Str} (h : KsAt i ks) (hg : [sR, sB][i]? = some g) : KsAt (i + 1) (ks ++ [g]) ∧ g ∉ ks := by
  rcases h with ⟨rfl, rfl⟩ | ⟨rfl, h⟩ | ⟨rfl, h⟩
  · cases Option.some.inj hg
    exact ⟨.inr (.inl ⟨rfl, .inr rfl⟩), by simp⟩
  · cases Option.some.inj hg
    rcases h with rfl | rfl
    · exact ⟨.inr (.inr ⟨rfl, .inr (.inr (.inl rfl))⟩), by simp⟩
    · exact ⟨.inr (.inr ⟨rfl, .inr (.inr (.inr rfl))⟩), by decide +kernel⟩
  · simp at hg
def spLaw (K : PySem.W.Frag) : Sp := fun vs H Q _ => ∃ (a : Addr) (ns : List Int), vs = [.ref a] ∧ SqL K H a (ns.map V.int) ∧ ns.length ≤ 63 ∧ ∀ H', Q (.bl true) H'
section
variable {P : Program} {w : World} {K : PySem.W.Frag} {mg : Str → Option Value} {base : Heap}
theorem ok_law (T : Tx K mg) {f : Addr} {fd : FuncData} (F : Fun K "law" "law" s_law f fd) : FnOk P w K mg base CX0 9 f fd ["_law_script"] (spLaw K) := by
  refine F.ok sc_law (fun vs H Q E h => ?_) (fun cdv A outer s H vs Q E hr h => ?_)
  · obtain ⟨a, ns, rfl, _⟩ := h
    rfl
  · obtain ⟨a, ns, rfl, hns, hnl, k⟩ := h
    have nd := sc_law.nd
    have hu := hr.units
    refine ⟨_, pss_cons (ps_set (i := 1) nd rfl (.inl rfl) (pe_f (ok_l_draws T) hr rfl (pa_cons (pv 0) pa_nil)))
      (pss_cons (ps_set (i := 2) nd rfl (.inl rfl) pe_dnewK)
      (pss_cons (ps_for PassesOwn.never rfl (pi_list (pe_lst (pa_cons pe_str (pa_cons pe_str pa_nil)))) (pg_name (i := 3) nd rfl (.inl rfl))
        (pss_one (ps_if (pt_cmpR op_gt (pe_f (ok_l_take T) hr rfl (pa_cons (pv 1) (pa_cons pe_int pa_nil))) pe_int (nomark _)) (pss_one (ps_asg (pe_tup (pa_cons (pe_ix ix_list (pe_lst (pa_cons pe_str (pa_cons pe_str pa_nil))) (pe_f (ok_l_take T) hr rfl (pa_cons (pv 1) (pa_cons pe_int pa_nil))) fun _ _ => rfl) (pa_cons (pe_op op_add pe_int (pe_f (ok_l_take T) hr rfl (pa_cons (pv 1) (pa_cons pe_int pa_nil)))) pa_nil))) (pg_sub (pv 2) (pv 3) (set_dict (Nat.lt_of_le_of_lt (Nat.add_le_add_left (show 1 ≤ 64 by decide) _) hu))))) pss_nil)))
      (pss_cons (ps_set (i := 4) nd rfl (.inl rfl) (pe_tup (pa_cons (pe_ix ix_list (pe_lst (pa_cons pe_str (pa_cons pe_str pa_nil))) (pe_f (ok_l_take T) hr rfl (pa_cons (pv 1) (pa_cons pe_int pa_nil))) fun _ _ => rfl) (pa_cons (pe_op op_add pe_int (pe_f (ok_l_take T) hr rfl (pa_cons (pv 1) (pa_cons pe_int pa_nil)))) pa_nil))))
      (pss_cons (ps_set (i := 5) nd rfl (.inl rfl) (pe_slice sl_list (pe_f (ok_l_stream T) hr rfl (pa_cons (pv 1) (pa_cons pe_int pa_nil))) po_none (po_some (pe_ix ix_list (pe_lst (pa_cons pe_int (pa_cons pe_int (pa_cons pe_int (pa_cons pe_int pa_nil))))) (pe_f (ok_l_take T) hr rfl (pa_cons (pv 1) (pa_cons pe_int pa_nil))) fun _ _ => rfl))))
      (pss_cons (ps_set (i := 6) nd rfl (.inl rfl) (pe_f (ok_l_gathered T) hr rfl (pa_cons (pv 2) (pa_cons (pv 4) (pa_cons (pe_lst (pa_cons (pv 5) pa_nil)) pa_nil)))))
      (pss_cons (ps_if (pt_cmpR (op_neD hr.units) (pe_f (ok_l_gathered T) hr rfl (pa_cons (pv 2) (pa_cons (pv 4) (pa_cons (pe_lst (pa_cons (pe_f (ok_l_mixed T) hr rfl (pa_cons (pv 1) (pa_cons (pv 5) pa_nil))) pa_nil)) pa_nil)))) (pv 6) (nomark _)) pss_never pss_nil)
      (pss_cons (ps_set (i := 7) nd rfl (.inl rfl) (pe_f (ok_l_mixed T) hr rfl (pa_cons (pv 1) (pa_cons (pv 5) pa_nil))))
      (pss_cons (ps_set (i := 8) nd rfl (.inl rfl) (pe_f (ok_l_take T) hr rfl (pa_cons (pv 1) (pa_cons (pe_op op_add (pe_callB call_len_seq (by rfl) T.f_len PySem.boot_len (pa_cons (pv 5) pa_nil)) pe_int) pa_nil))))
      (pss_one (ps_ret (pe_cmpR (op_eqD hr.units) (pe_f (ok_l_gathered T) hr rfl (pa_cons (pv 2) (pa_cons (pv 4) (pa_cons (pe_lst (pa_cons (pe_slice sl_list (pv 7) po_none (po_some (pv 8))) (pa_cons (pe_slice sl_list (pv 7) (po_some (pv 8)) po_none) pa_nil))) pa_nil)))) (pv 6) (nomark _)))))))))))), ?_⟩
    -- the draws
    refine ⟨_, rfl, a, ns, rfl, hns, hnl, fun H1 da ds s1 _ hda hdl => ?_⟩
    -- the rules
    refine fun D hD => ?_
    have K0 := KD.refl hda hdl
    have nDd : D ≠ da := K0.ne hD
    have K1 := K0.new (u := .dK []) hD
    refine ⟨(by show 2 ≤ sizeLine; decide), fun GL hGL => ?_⟩
    have K2 := K1.new (u := .lst [V.str "red", V.str "blue"]) hGL
    have nGd : GL ≠ da := K1.ne hGL
    have hD2 : upd (upd H1 D (.dK [])) GL (.lst [V.str "red", V.str "blue"]) D = some (.dK []) := same_new hGL _ _ upd_same
    have nGD : GL ≠ D := fun z => by rw [z, upd_same] at hGL; cases hGL
    have hGL1 : H1 GL = none := K1.free hGL |> fun q => q
    refine ⟨GL, rfl, ⟨_, SqL.of upd_same⟩, for_it walk_list (fun i σ H' => ∃ (o3 : Option V) (ks : List Str) (kvs : List (Key × V)), σ = [some (.ref a), some (.ref da), some (.ref D), o3, none, none, none, none, none] ∧ KD da H1 H' ∧ H' GL = some (.lst [V.str "red", V.str "blue"]) ∧ H' D = some (.dK kvs) ∧ kvs.map (·.1) = ks.map Sum.inr ∧ KsAt i ks ∧
        (∀ g ∈ ks, ∃ v r, valV kvs (.inr g) = some v ∧ RuleV K H' v r ∧ 1 ≤ r.2 ∧ r.2 ≤ 2) ∧ ∀ p ∈ kvs, ∃ r : Rule, RuleV K H' p.2 r ∧ 1 ≤ r.2 ∧ r.2 ≤ 2)
      ⟨none, [], [], rfl, K2, upd_same, hD2, rfl, .inl ⟨rfl, rfl⟩, fun g hg => (nomatch hg), fun p hp => (nomatch hp)⟩ (fun i σ H' _ ⟨_, _, _, _, _, h', _⟩ => SqL.of h') ?_ ?_⟩
    · rintro i vg σ H3 H' hi ⟨o3, ks, kvs, rfl, K3, hG3, hD3, hkk, hks, hv, hall⟩ ⟨rfl, hvg⟩
      have hi2 : i < 2 := hi
      obtain ⟨g, hg, rfl⟩ : ∃ g, [sR, sB][i]? = some g ∧ vg = .str g := by
        have e : [V.str "red", V.str "blue"] = [sR, sB].map V.str := rfl
        rw [e] at hvg
        exact map_at hvg
      obtain ⟨ds3, hda3, hdl3⟩ := K3.at_
      refine ⟨_, rfl, da, 3, ds3, rfl, hda3, hdl3, by decide, fun v0 H4 h00 h01 hO0 => ?_⟩
      have k4 := hO0.kd
      have K4 := K3.trans k4
      have hG4 := k4.keep _ _ hG3 nGd
      have hD4 := k4.keep _ _ hD3 nDd
      have t4 := k4.ts hda3
      refine ⟨_, _, rfl, rfl, _, rfl, ?_⟩
      refine ite2 (fun _ => ?_) (fun _ => ?_)
      · skip
        obtain ⟨dsP, hdaP, hdlP⟩ := (K4).at_
        refine ⟨(by show 2 ≤ sizeLine; decide), fun KLP hKLP => ?_⟩
        have kaP := (K4).new (u := .lst [V.str "uniform", V.str "weighted"]) hKLP
        obtain ⟨dsbP, hdabP, hdlbP⟩ := kaP.at_
        refine ⟨_, rfl, da, 2, dsbP, rfl, hdabP, hdlbP, by decide, fun vaP HaP ha0P ha1P hOaP => ?_⟩
        have kbP := kaP.trans hOaP.kd
        have nKLP : KLP ≠ da := (K4).ne hKLP
        have hKLbP := hOaP.kd.keep _ _ (upd_same (H := H4) (a := KLP) (o := .lst [V.str "uniform", V.str "weighted"])) nKLP
        obtain ⟨bbP, hbbP⟩ := kind2 ha0P ha1P
        obtain ⟨dscP, hdacP, hdlcP⟩ := kbP.at_
        refine ⟨KLP, _, vaP, _, rfl, rfl, SqL.of hKLbP, hbbP, _, rfl, da, 2, dscP, rfl, hdacP, hdlcP, by decide, fun vbP HbP hb0P hb1P hObP => ⟨_, _, rfl, rfl, (by show 2 ≤ sizeLine; decide), fun tP htP => ?_⟩⟩
        have kcP := kbP.trans hObP.kd
        have kdP := kcP.new (u := .tup [.str (knd bbP), .int (1 + vbP)]) htP
        have klP := ((KD.refl hdaP hdlP).new (u := .lst [V.str "uniform", V.str "weighted"]) hKLP).trans (hOaP.kd.trans hObP.kd) |>.new (u := .tup [.str (knd bbP), .int (1 + vbP)]) htP
        have hRP : ∃ r : Rule, RuleV K (upd HbP tP (.tup [.str (knd bbP), .int (1 + vbP)])) (.ref tP) r ∧ 1 ≤ r.2 ∧ r.2 ≤ 2 := ⟨(bbP, (1 + vbP).toNat), ⟨tP, rfl, by rw [show (((1 + vbP).toNat : Nat) : Int) = 1 + vbP by omega]; exact SqT.of upd_same⟩, by show 1 ≤ (1 + vbP).toNat; omega, by show (1 + vbP).toNat ≤ 2; omega⟩
        obtain ⟨ks', hgn⟩ := ks_put hks hg
        have hlen : kvs.length < sizeLine := by
          have e := congrArg List.length hkk
          rw [List.length_map, List.length_map] at e
          rw [e, sizeLine_eq]
          have : ks.length ≤ 2 := by
            rcases hks with ⟨_, rfl⟩ | ⟨_, rfl | rfl⟩ | ⟨_, rfl | rfl | rfl | rfl⟩ <;> decide
          omega
        have hDt := klP.keep _ _ hD4 nDd
        have tt : Ts H4 _ := klP.ts hdaP
        refine ⟨_, rfl, _, rfl, D, _, rfl, DPut.k (k := .inr g) hDt hlen, ?_⟩
        have tD : Ts (upd HbP tP (.tup [.str (knd bbP), .int (1 + vbP)])) (upd (upd HbP tP (.tup [.str (knd bbP), .int (1 + vbP)])) D (.dK (putK kvs (.inr g) (.ref tP)))) := ts_upd hDt (fun _ z => nomatch z) fun _ _ z => nomatch z
        have hvn : valV kvs (.inr g) = none := by
          have z := valV_keys hkk g
          rw [decide_eq_false hgn] at z
          cases q : valV kvs (.inr g) with
          | none => rfl
          | some x => rw [q] at z; cases z
        obtain ⟨rP, hrP1, hrP2⟩ := hRP
        refine ⟨_, ks ++ [g], putK kvs (.inr g) (.ref tP), rfl, kdP.mine hD nDd, by rw [upd_ne nGD]; exact klP.keep _ _ hG4 nGd, upd_same, ?_, ks', fun g' hg' => ?_, fun p hp => ?_⟩
        · rw [putK_new _ hvn, List.map_append, hkk, List.map_append]
          rfl
        · rw [valV_put]
          rcases List.mem_append.mp hg' with e | e
          · obtain ⟨v, r, h1, h2, h3⟩ := hv g' e
            rw [if_neg (fun z => hgn (by rw [← Sum.inr.inj z]; exact e))]
            exact ⟨v, r, h1, ((h2.ts t4).ts tt).ts tD, h3⟩
          · rw [List.mem_singleton.mp e, if_pos rfl]
            exact ⟨_, rP, rfl, hrP1.ts tD, hrP2⟩
        · rw [putK_new _ hvn] at hp
          rcases List.mem_append.mp hp with e | e
          · obtain ⟨r, h2, h3⟩ := hall p e
            exact ⟨r, ((h2.ts t4).ts tt).ts tD, h3⟩
          · rw [List.mem_singleton.mp e]
            exact ⟨rP, hrP1.ts tD, hrP2⟩
      · exact ⟨_, ks, kvs, rfl, K4, hG4, hD4, hkk, ks_skip hi2 hks, fun g hg => let ⟨v, r, h1, h2, h3⟩ := hv g hg; ⟨v, r, h1, h2.ts t4, h3⟩, fun p hp => let ⟨r, h2, h3⟩ := hall p hp; ⟨r, h2.ts t4, h3⟩⟩
    · rintro σ H4 ⟨o3, ks, kvs, rfl, K4, _, hD4, hkk, hks, hv, hall⟩
      have hks4 : ks = [] ∨ ks = [sR] ∨ ks = [sB] ∨ ks = [sR, sB] := by
        rcases hks with ⟨z, _⟩ | ⟨z, _⟩ | ⟨_, h⟩
        · cases z
        · cases z
        · exact h
      -- the others
      obtain ⟨dsO, hdaO, hdlO⟩ := (K4).at_
      refine ⟨(by show 2 ≤ sizeLine; decide), fun KLO hKLO => ?_⟩
      have kaO := (K4).new (u := .lst [V.str "uniform", V.str "weighted"]) hKLO
      obtain ⟨dsbO, hdabO, hdlbO⟩ := kaO.at_
      refine ⟨_, rfl, da, 2, dsbO, rfl, hdabO, hdlbO, by decide, fun vaO HaO ha0O ha1O hOaO => ?_⟩
      have kbO := kaO.trans hOaO.kd
      have nKLO : KLO ≠ da := (K4).ne hKLO
      have hKLbO := hOaO.kd.keep _ _ (upd_same (H := H4) (a := KLO) (o := .lst [V.str "uniform", V.str "weighted"])) nKLO
      obtain ⟨bbO, hbbO⟩ := kind2 ha0O ha1O
      obtain ⟨dscO, hdacO, hdlcO⟩ := kbO.at_
      refine ⟨KLO, _, vaO, _, rfl, rfl, SqL.of hKLbO, hbbO, _, rfl, da, 2, dscO, rfl, hdacO, hdlcO, by decide, fun vbO HbO hb0O hb1O hObO => ⟨_, _, rfl, rfl, (by show 2 ≤ sizeLine; decide), fun tO htO => ?_⟩⟩
      have kcO := kbO.trans hObO.kd
      have kdO := kcO.new (u := .tup [.str (knd bbO), .int (1 + vbO)]) htO
      have klO := ((KD.refl hdaO hdlO).new (u := .lst [V.str "uniform", V.str "weighted"]) hKLO).trans (hOaO.kd.trans hObO.kd) |>.new (u := .tup [.str (knd bbO), .int (1 + vbO)]) htO
      have hRO : ∃ r : Rule, RuleV K (upd HbO tO (.tup [.str (knd bbO), .int (1 + vbO)])) (.ref tO) r ∧ 1 ≤ r.2 ∧ r.2 ≤ 2 := ⟨(bbO, (1 + vbO).toNat), ⟨tO, rfl, by rw [show (((1 + vbO).toNat : Nat) : Int) = 1 + vbO by omega]; exact SqT.of upd_same⟩, by show 1 ≤ (1 + vbO).toNat; omega, by show (1 + vbO).toNat ≤ 2; omega⟩
      have t4 : Ts H4 _ := klO.ts hdaO
      have hDO := klO.keep _ _ hD4 nDd
      obtain ⟨ro, hro1, hro2⟩ := hRO
      obtain ⟨gs, rs, RU⟩ := mk_ru (ro := ro) hDO hkk hks4 (fun g hg => let ⟨v, r, h1, h2, h3⟩ := hv g hg; ⟨v, r, h1, h2.ts t4, h3⟩) ⟨hro1, hro2⟩ fun p hp => let ⟨r, h2, h3⟩ := hall p hp; ⟨r, h2.ts t4, h3⟩
      generalize upd HbO tO (.tup [.str (knd bbO), .int (1 + vbO)]) = H5 at kdO RU
      clear hv hall hro1 klO t4 hDO
      have R := RU.rok
      -- the items
      obtain ⟨ds5, hda5, hdl5⟩ := kdO.at_
      refine ⟨_, rfl, da, ds5, rfl, hda5, hdl5, fun H6 l6 B k6 hl6 hl6l hBi hBn hBl => ?_⟩
      obtain ⟨ds6, hda6, hdl6⟩ := k6.at_
      have nl6 : l6 ≠ da := fun z => by rw [z, hda5] at hl6; cases hl6
      refine ⟨(by show 4 ≤ sizeLine; decide), fun NL hNL => ?_⟩
      have k7 := (KD.refl hda6 hdl6).new (u := .lst [V.int 3, V.int 3, V.int 3, V.int 4]) hNL
      have nNL : NL ≠ da := (KD.refl hda6 hdl6).ne hNL
      obtain ⟨ds7, hda7, hdl7⟩ := k7.at_
      refine ⟨_, rfl, da, 4, ds7, rfl, hda7, hdl7, by decide, fun v7 H8 h70 h71 hO7 => ?_⟩
      have k8 := k7.trans hO7.kd
      obtain ⟨n, hn4, hn⟩ := size4 h70 h71
      have hNL8 := hO7.kd.keep _ _ (upd_same (H := H6) (a := NL) (o := .lst [V.int 3, V.int 3, V.int 3, V.int 4])) nNL
      have hl68 := k8.keep _ _ hl6l nl6
      refine ⟨NL, _, v7, _, rfl, rfl, SqL.of hNL8, hn, (n : Int), rfl, l6, _, rfl, SqL.of hl68, fun IL hIL => ?_⟩
      rw [cut0 _ (by omega), Int.toNat_natCast, ← List.map_take]
      have k58 := k6.trans k8
      have k59 := k58.new (u := .lst ((B.take n).map itR)) hIL
      have hILd : IL ≠ da := k58.ne hIL
      have hIL9 : upd H8 IL (.lst ((B.take n).map itR)) IL = some (.lst ((B.take n).map itR)) := upd_same
      have hAi : ∀ x ∈ B.take n, ItAt K (upd H8 IL (.lst ((B.take n).map itR))) x ∧ ItOk x ∧ x.key ∈ keysAll := fun x hx => by
        obtain ⟨h1, h2, h3⟩ := hBi x (List.mem_of_mem_take hx)
        exact ⟨(h1.ts (k8.ts hda6)).ts (ts_new hIL), h2, h3⟩
      have hAn : ((B.take n).map (·.key)).Nodup := hBn.sublist ((List.take_sublist _ _).map _)
      have hAl : (B.take n).length ≤ 4 := by rw [List.length_take]; omega
      generalize upd H8 IL (.lst ((B.take n).map itR)) = H9 at k59 hIL9 hAi
      generalize B.take n = A at hIL9 hAi hAn hAl
      have hAok : ∀ x ∈ A, ItOk x := fun x hx => (hAi x hx).2.1
      have RU9 : RuA K H9 D (.ref tO) ks gs rs kvs := RU.at (k59.ts hda5) (k59.keep _ _ RU.dict nDd)
      have gA := good_one' R A hAok hAl
      have fA := (good_one srtI_ok R A hAok hAl).2
      obtain ⟨ds9, hda9, hdl9⟩ := k59.at_
      have K9 := KD.refl hda9 hdl9
      -- the first law
      refine ⟨_, rfl, _, rfl, _, rfl, (by show 1 ≤ sizeLine; decide), fun l1 hl1 => ?_⟩
      have s10 := same_new (o := .lst [.ref IL]) hl1
      refine ⟨D, l1, .ref tO, ks, gs, rs, kvs, [IL], [A], rfl, RU9.same s10, SqL.of upd_same, .cons (SqL.of (s10 _ _ hIL9)) .nil, by simp, by simp, (fun A' hA' x hx => ?_), by simpa using hAl, by simpa using hAn, by simpa using gA, fA, fun H11 f1 zs1 s11 hf1 hf1l hr1 => ?_⟩
      · rw [List.mem_singleton.mp hA'] at hx
        exact ⟨(hAi x hx).1.ts (.of_same s10), (hAi x hx).2.1⟩
      have s911 := s10.trans s11
      have K11 := K9.same s911
      have L1ok : ∀ y ∈ lawL (rowsT (wholeT srtI gs rs [A])), ∀ z ∈ y.1, ∀ kk ∈ z.2, PyData.strOk kk = true := law_keys gA fun x hx => (hAi x hx).2.2
      have sh1 := law_shaped L1ok
      have ee1 : PyData.eqv (lawD (lawL (rowsT (wholeT srtI gs rs [A])))) (lawD (lawL (rowsT (wholeT srtI gs rs [A])))) = true := SeqAt.eqv_refl _ (SeqAt.canLay_of_shaped sh1)
      have nf1 : f1 ≠ da := fun z => by
        have : H9 f1 = none := s10.free hf1
        rw [z, hda9] at this
        cases this
      obtain ⟨ds11, hda11, hdl11⟩ := K11.at_
      -- another order
      refine ⟨_, rfl, _, rfl, _, rfl, _, rfl, da, IL, ds11, A, rfl, hda11, hdl11, SqL.of (s911 _ _ hIL9), hILd, by omega, fun H12 m1 B1 hpB1 k12 hm1 hm1l => ⟨(by show 1 ≤ sizeLine; decide), fun l2 hl2 => ?_⟩⟩
      have t12 := k12.ts hda11
      have s13 := same_new (o := .lst [.ref m1]) hl2
      have hB1ok : ∀ x ∈ B1, ItOk x := fun x hx => hAok x (hpB1.mem_iff.mp hx)
      have hB1l : B1.length ≤ 4 := by rw [hpB1.length_eq]; exact hAl
      have RU12 : RuA K H12 D (.ref tO) ks gs rs kvs := (RU9.same s911).at t12 (k12.keep _ _ (RU9.same s911).dict nDd)
      have gB1 := good_one' R B1 hB1ok hB1l
      have fB1 := (good_one srtI_ok R B1 hB1ok hB1l).2
      refine ⟨D, l2, .ref tO, ks, gs, rs, kvs, [m1], [B1], rfl, RU12.same s13, SqL.of upd_same, .cons (SqL.of (s13 _ _ hm1l)) .nil, by simp, by simp, (fun A' hA' x hx => ?_), by simpa using hB1l, by simpa using ((hpB1.map (·.key)).nodup_iff.mpr hAn), by simpa using gB1, fB1, fun H14 f2 zs2 s14 hf2 hf2l hr2 => ?_⟩
      · rw [List.mem_singleton.mp hA'] at hx
        have hxA := hpB1.mem_iff.mp hx
        exact ⟨(((hAi x hxA).1.ts (.of_same s911)).ts t12).ts (.of_same s13), hAok x hxA⟩
      have s1214 := s13.trans s14
      have k1114 := k12.same s1214
      have t1114 := k1114.ts hda11
      have hf1l14 := k1114.keep _ _ hf1l nf1
      have hr114 := hr1.ts t1114
      rw [← law_perm R hpB1.symm hAok hAl] at hr2
      refine ⟨_, rfl, _, _, .lst (SqL.of hf2l) (rows_dp hr2), .lst (SqL.of hf1l14) (rows_dp hr114), sh1, sh1, ?_⟩
      have ee1' : PyData.eqv (.list ((lawL (rowsT (wholeT srtI gs rs [A]))).map rowD)) (.list ((lawL (rowsT (wholeT srtI gs rs [A]))).map rowD)) = true := ee1
      rw [ee1']
      refine ⟨false, rfl, ?_⟩
      refine iteF ?_
      -- cut in two
      obtain ⟨ds14, hda14, hdl14⟩ := k1114.at_
      have hIL14 := k1114.keep _ _ (s911 _ _ hIL9) hILd
      refine ⟨_, rfl, _, rfl, da, IL, ds14, A, rfl, hda14, hdl14, SqL.of hIL14, hILd, by omega, fun H15 m2 B2 hpB2 k15 hm2 hm2l => ?_⟩
      have K15 := k15
      obtain ⟨ds15, hda15, hdl15⟩ := k15.at_
      have nm2 : m2 ≠ da := fun z => by rw [z, hda14] at hm2; cases hm2
      have hIL15 := k15.keep _ _ hIL14 hILd
      refine ⟨_, rfl, _, rfl, IL, _, rfl, .inl (SqL.of hIL15), _, _, rfl, rfl, da, _, ds15, rfl, hda15, hdl15, by rw [List.length_map]; omega, fun v15 H16 h150 h151 hO15 => ?_⟩
      have k16 := k15.trans hO15.kd
      have t16 := k16.ts hda14
      have hm216 := hO15.kd.keep _ _ hm2l nm2
      have RU16 : RuA K H16 D (.ref tO) ks gs rs kvs := ((RU9.same s911).at t1114 (k1114.keep _ _ (RU9.same s911).dict nDd)).at t16 (k16.keep _ _ (k1114.keep _ _ (RU9.same s911).dict nDd) nDd)
      refine ⟨_, rfl, _, rfl, _, rfl, _, rfl, v15, rfl, m2, _, rfl, SqL.of hm216, fun c1 hc1 => ?_⟩
      refine ⟨_, rfl, _, rfl, v15, rfl, m2, _, rfl, SqL.of (same_new hc1 _ _ hm216), fun c2 hc2 => ⟨(by show 2 ≤ sizeLine; decide), fun l3 hl3 => ?_⟩⟩
      have e1 : cutV (B2.map itR) none (some v15) = (B2.take v15.toNat).map itR := by rw [cut0 _ h150, List.map_take]
      have e2 : cutV (B2.map itR) (some v15) none = (B2.drop v15.toNat).map itR := by rw [cutd _ h150, List.map_drop]
      have htd : B2.take v15.toNat ++ B2.drop v15.toNat = B2 := List.take_append_drop _ _
      have hpc : A.Perm (B2.take v15.toNat ++ B2.drop v15.toNat) := by rw [htd]; exact hpB2.symm
      generalize B2.take v15.toNat = C1 at e1 htd hpc
      generalize B2.drop v15.toNat = C2 at e2 htd hpc
      rw [e1] at hc2 hl3
      rw [e2] at hl3
      have s17 := same_new (o := .lst (C1.map itR)) hc1
      have s18 := same_new (o := .lst (C2.map itR)) hc2
      have s19 := same_new (o := .lst [.ref c1, .ref c2]) hl3
      have s1619 := (s17.trans s18).trans s19
      have hC1 : ∀ x ∈ C1, x ∈ A := fun x hx => hpc.mem_iff.mpr (List.mem_append_left _ hx)
      have hC2 : ∀ x ∈ C2, x ∈ A := fun x hx => hpc.mem_iff.mpr (List.mem_append_right _ hx)
      have hCl : C1.length + C2.length ≤ 4 := by
        have := hpc.length_eq
        rw [List.length_append] at this
        omega
      have gC := good_two' R C1 C2 (fun x hx => hAok x (hC1 x hx)) (fun x hx => hAok x (hC2 x hx)) hCl
      have fC := (good_two srtI_ok R C1 C2 (fun x hx => hAok x (hC1 x hx)) (fun x hx => hAok x (hC2 x hx)) hCl).2
      rw [e1, e2]
      have hAi16 : ∀ x ∈ A, ItAt K H16 x := fun x hx => (((hAi x hx).1.ts (.of_same s911)).ts t1114).ts t16
      refine ⟨D, l3, .ref tO, ks, gs, rs, kvs, [c1, c2], [C1, C2], rfl, RU16.same s1619, SqL.of upd_same, .cons (SqL.of (s19 _ _ (s18 _ _ upd_same))) (.cons (SqL.of (s19 _ _ upd_same)) .nil), by simp, by simp, (fun A' hA' x hx => ?_), by simpa using hCl, ?_, by simpa using gC, fC, fun H20 f3 zs3 s20 hf3 hf3l hr3 => ?_⟩
      · have hxA : x ∈ A := by
          rcases List.mem_cons.mp hA' with e | e
          · rw [e] at hx; exact hC1 x hx
          · rw [List.mem_singleton.mp e] at hx; exact hC2 x hx
        exact ⟨(hAi16 x hxA).ts (.of_same s1619), hAok x hxA⟩
      · have z : ((C1 ++ C2).map (·.key)).Nodup := (hpc.map (·.key)).nodup_iff.mp hAn
        simpa using z
      · have s1620 := s1619.trans s20
        have hf1l20 := s1620 _ _ (k16.keep _ _ hf1l14 nf1)
        have hr120 := (hr114.ts t16).ts (.of_same s1620)
        rw [law_cut R hpc hAok hAl] at hr3
        refine ⟨_, rfl, _, _, .lst (SqL.of hf3l) (rows_dp hr3), .lst (SqL.of hf1l20) (rows_dp hr120), sh1, sh1, ?_⟩
        rw [ee1']
        exact k _
end
end Sam

set_option maxHeartbeats 0
namespace Sam
open PySem PySem.Spec PyProof.Rows L2
theorem facts {P : Program} {w : World} {K : PySem.W.Frag} {h : Heap} {mg : Str → Option Value} {f : Addr} (X : K.In h) (G : h.Ns mainGlobals mg) (hfa : mg ("law" : Str) = some (.ref f)) (c : obsS K = valS) :
    ∃ fd : FuncData, (∀ (s : Shared) (v : Value), BindsTo s fd ⟨[v], []⟩ [("_law_script", v)]) ∧ ∀ base : Heap, FnOk P w K mg base CX0 9 f fd ["_law_script"] (spLaw K) := by
  have T := tx_of X G c
  obtain ⟨fd, F⟩ := T.d_law
  have e := hfa.symm.trans T.g_law
  cases e
  refine ⟨fd, fun s v => ?_, fun base => ok_law T F⟩
  obtain ⟨oc, od, kV, doc, pm, an, cdv, ct, osl, rfl, lk, hcd⟩ := F.ex
  exact .of_eq rfl
def obS (s : PySem.W.SharedT) : He.AlD := obsSG (HandSHeadRun.getT s)
theorem obS_eq (s : PySem.W.SharedT) : obS s = hookS.obs s.abs := obsSG_eq (HandSHeadRun.getT_eq s)
theorem pair_some {α β γ : Type} {o : Option α} {f : α → β} {g : α → γ} {b : β} {c : γ} (h1 : o.map f = some b) (h2 : o.map g = some c) : o.map (fun x => (f x, g x)) = some (b, c) := by
  cases o with
  | none => cases h1
  | some x =>
    have e1 := Option.some.inj h1
    have e2 := Option.some.inj h2
    exact congrArg some (Prod.ext e1 e2)
end Sam
namespace SamHead
open PySem PySem.W PySem.Calls PyProof.Rows HandSHeadRun
theorem holds_of (names : List PySem.Str) (o1 : ∀ w : World, (wholeF (fun p => stepQ (denQ tabQ) p w) fenceQ 20000 R.prog).map (fun x => (looksF R.prog x.1.heap x.2.abs, seenQ qv names (importedModules R.prog.main.body) (fun s => xlAt qv [] s && recOk R.toRowW.records s) x.2.abs)) = some (true, openGood qv names))
    (o2 : ∀ w : World, (wholeF (fun p => stepQ (denQ tabQ) p w) fenceQ 20000 R.prog).map (fun x => Sam.obsSG (getT x.2)) = some Sam.valS) :
    PySem.Challenge.rw_samphire_k63_whole_stores_have_one_law.Holds := by
  w_on; o_law
  refine HandSHeadRun.head_imp (r := R) (q := qv) (H := Sam.hookS) (ob := Sam.obS) (M := 20000) (loose := names) (d := HandSHeadRun.topDef R.prog 67) (kwd := []) Sam.obS_eq
    (fun w => ?run) (by kernel_rfl) (by kernel_rfl) (by kernel_rfl) (by rfl) (by first | assumption | decide +kernel) (by decide +kernel) ⟨rfl, rfl, rfl, rfl, rfl, by decide +kernel⟩ ?hw ?hc
  case run =>
    have z := Sam.pair_some (o1 w) (o2 w)
    unfold RunEqI
    have e : ∀ (a : Option (Shared × SharedT)), a.map (fun x => ((looksF R.prog x.1.heap x.2.abs, seenQ qv names (importedModules R.prog.main.body) (fun s => xlAt qv [] s && recOk R.toRowW.records s) x.2.abs), Sam.obsSG (getT x.2))) = some ((true, openGood qv names), Sam.valS) →
        a.map (fun x => (looksF R.prog x.1.heap x.2.abs, seenQ qv names (importedModules R.prog.main.body) (fun s => xlAt qv [] s && recOk R.toRowW.records s) x.2.abs, Sam.obS x.2)) = some (true, openGood qv names, Sam.hookS.val w) := by
      intro a h
      cases a with
      | none => cases h
      | some x =>
        have h1 := Option.some.inj h
        have ha := (Prod.mk.inj h1).1
        have hb := (Prod.mk.inj h1).2
        have h2 := Prod.mk.inj ha
        exact congrArg some (Prod.ext h2.1 (Prod.ext h2.2 hb))
    exact e _ z
  case hw => w_witness2
  case hc =>
    refine L2.walk_ofE (l := PySem.Challenge.rw_samphire_k63_whole_stores_have_one_law) (n := 63) (k := 9) (x := "_law_script") (CX := L2.CX0) rfl (by decide) (by kernel_rfl) ⟨rfl, by decide, by decide⟩ ?F (fun _ _ _ _ z => z)
    intro w mg fa h Y G hmg0
    obtain ⟨K, KX, c⟩ := Y
    have hmg : mg ("law" : PySem.Str) = some (.ref fa) := by
      have e : (HandSHeadRun.topDef R.prog 67).name = ("law" : PySem.Str) := by kernel_rfl
      rw [← e]
      exact hmg0
    obtain ⟨fd, hb, hF⟩ := Sam.facts (P := PySem.Challenge.rw_samphire_k63_whole_stores_have_one_law.prog) (w := w) KX G hmg c
    exact ⟨K, fd, Sam.spLaw K, KX, hb, fun H a ns hl _ hS => ⟨a, ns, rfl, hS, hl, fun _ => rfl⟩, fun base _ _ => hF base⟩
end SamHead

theorem PySem.Challenge.cw_samphire_k63_whole_stores_have_one_law_holds : PySem.Challenge.rw_samphire_k63_whole_stores_have_one_law.Holds := by
  exact SamHead.holds_of SamHead.names SamHead.o1 SamHead.o2
